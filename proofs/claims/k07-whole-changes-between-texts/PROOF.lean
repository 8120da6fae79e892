import PyProof.Rows.All
import Wide.All
import OpenK.AllK
import Wide.FinOn
import KE.KNestM
import PySem.Challenge.RW_mapstack_k07_whole_changes_between_texts
import HandS.ForMost
import HandS.Exc
import HandS.Lambda
import HandS.CallSlots
import HandS.Walk
import HandS.Style
import HandS.Wide
import HandS.IsInst
import HandS.TupAny
import HandS.StrMore
import PyProof.ReprReads
import PyProof.ReprRoads
import KE.KExcSuper
import HandS.MapJoin
import HandS.Text
import HandS.Iter
import HandS.Zip
import HandS.Comp
import HandS.Dict
import HandS.ExcField
import HandS.ExcValue
import KE.KExcIs
import HandS.Codes
import HandS.EndTab
import HandS.HeadWalk
import KE.KTryMore
import KE.KDflt
import HandS.Conv
import HandS.Property
import HandS.CallLocal
import HandS.ClsMeth
import HandS.Star
import PyProof.InstNe
import KE.DataMinMax
import HandS.Deep
import HandS.Flow
import HandS.SortInts
import KE.GoesMore
import HandS.GenBody
import HandS.GenYield
import KE.GoesZip
import KE.KDictZip
import KE.GoesEnum
import PyProof.StrLawsOcc
section
set_option Elab.async false
set_option maxRecDepth 100000
set_option maxHeartbeats 0
open PySem PySem.W PyProof.Rows
local macro_rules | `(tactic| k_head) => `(tactic| x_head)
open_top head0 for PySem.Challenge.rw_mapstack_k07_whole_changes_between_texts
end

section
set_option Elab.async false
set_option maxRecDepth 100000
set_option maxHeartbeats 0
open PySem PySem.W PyProof.Rows
/-- the written part without the tables of the defs that make lambdas -/
noncomputable def KY (p : Params) : PySem.W.Frag := (head0.heap_39 p).filter fun q => !([401] : List Nat).contains q.1
local macro_rules | `(tactic| k_head) => `(tactic| o_head (kmHook KY [0, 1, 2, 3, 4, 5, 6, 7, 8, 9, 10, 11, 12, 13, 14, 15, 16, 17, 18, 19, 20, 21, 22, 29, 30, 31, 32, 35, 42, 43, 44, 45, 48, 51, 56, 57, 58, 59, 60, 61, 62, 63, 64, 65, 66, 69, 72, 77, 78, 79, 80, 81, 82, 83, 84, 85, 86, 87, 90, 93, 98, 99, 100, 101, 102, 103, 104, 105, 106, 107, 108, 111, 114, 119, 120, 121, 122, 123, 124, 125, 126, 127, 128, 129, 132, 133, 134, 135, 136, 137, 138, 139, 140, 141, 142, 143, 144, 145, 146, 147, 148, 149, 150, 151, 152, 153, 154, 155, 156, 157, 158, 159, 160, 161, 162, 163, 164, 165, 166, 167, 168, 169, 170, 171, 172, 173, 174, 175, 176, 177, 178, 179, 180, 181, 182, 183, 184, 185, 186, 187, 188, 189, 190, 191, 192, 193, 194, 195, 196, 197, 198, 199, 200, 201, 202, 203, 204, 205, 206, 207, 208, 209, 210, 211, 212, 213, 214, 215, 216, 217, 218, 219, 220, 221, 222, 223, 224, 225, 226, 227, 235, 236, 237, 238, 239, 240, 241, 242, 243, 244, 245, 246, 247, 248, 249, 250, 251, 252, 253, 254, 255, 256, 257, 258, 259, 260, 261, 262, 263, 264, 265, 266, 267, 268, 269, 270, 271, 272, 273, 274, 275, 276, 277, 278, 279, 280, 281, 282, 283, 284, 285, 286, 287, 288, 289, 290, 291, 292, 293, 294, 295, 296, 297, 298, 299, 300, 301, 302, 303, 304, 305, 306, 307, 308, 309, 310, 311, 312, 313, 314, 315, 316, 317, 318, 319, 320, 321, 322, 323, 324, 325, 326, 327, 328, 329, 330, 331, 334, 335, 336, 337, 338, 339, 340, 341, 342, 343, 344, 345, 346, 347, 348, 349, 350, 351, 352, 353, 354, 355, 356, 357, 358, 359, 360, 361, 362, 363, 364, 365, 366, 367, 368, 369, 370, 371, 372, 373, 374, 375, 376, 377, 378, 379, 380, 381, 382, 383, 384, 385, 386, 387, 388, 389, 390, 391, 392, 393, 394, 395, 396, 397, 398, 399, 400, 402, 403, 404] (fun _ => by kernel_rfl) [401]))
open_top head1 for PySem.Challenge.rw_mapstack_k07_whole_changes_between_texts
end

section
set_option Elab.async false
set_option maxRecDepth 100000
set_option maxHeartbeats 4000000
set_option linter.all false
/-! D1: values without addresses, a store of what may change, and how both lie in an abstract heap. -/
namespace DL
open PySem PySem.Spec PyProof.Rows L2

/-- a value: data by content; ref: what stands in the store -/
inductive D where
  | non | bl (b : Bool) | int (i : Int) | str (x : Str)
  | tup (xs : List D) | lst (xs : List D)
  | scr (xs : List D)
  | dic (ks : List Key) (vs : List D)
  | ref (n : Nat)
  | con (v : V)
  | exc (c : Nat) (fs : List D)
  | obj (c : Nat) (fs : List D)
  | lam (f : Addr) (P : List Addr → Hp → Prop)
  deriving Inhabited
/-- what stands in the store -/
inductive Ob where
  | lst (xs : List D)
  | dic (ks : List Key) (vs : List D)
  | ins (c : Nat) (fs : List D)
  deriving Inhabited
abbrev S := List Ob
/-- the classes of the text: where they stand, the names of their fields -/
structure Tab where
  cls : Nat → Addr
  flds : Nat → List Str
  tabs : List (Addr × Str)

/-- an exception's object at a -/
def ExcO (a : Addr) (C : Addr) (d : Option Addr) : HO := .ext fun h => ∃ o vs, h.get? a = some o ∧ o.cls = .ref C ∧ o.dict = d ∧ o.data = .fields vs

/-- no table of code objects (these alone grow) -/
abbrev NT (u : HO) : Prop := ∀ ps, u ≠ .tbl ps
/-- nothing, or a table -/
def Nn (H : Hp) (a : Addr) : Prop := ∀ u, H a = some u → ∃ ps, u = .tbl ps
theorem Nn.of {H : Hp} {a : Addr} (h : H a = none) : Nn H a := fun u e => by rw [h] at e; cases e
/-- later: new places behind, what is no place of the store stays, nothing goes -/
structure Le (ρ : List Addr) (H : Hp) (ρ' : List Addr) (H' : Hp) : Prop where
  grow : ∃ t, ρ' = ρ ++ t ∧ ∀ a ∈ t, Nn H a
  stay : ∀ a u, H a = some u → a ∉ ρ → NT u → H' a = some u
  dom : ∀ a, Nn H' a → Nn H a
theorem Le.refl (ρ : List Addr) (H : Hp) : Le ρ H ρ H := ⟨⟨[], by simp⟩, fun _ _ h _ _ => h, fun _ h => h⟩
theorem Le.nin {ρ ρ' : List Addr} {H H' : Hp} (l : Le ρ H ρ' H') {a : Addr} {u : HO} (h : H a = some u) (n : a ∉ ρ) (nt : NT u := by (intro _ z; cases z)) : a ∉ ρ' := by
  obtain ⟨t, e, f⟩ := l.grow
  rw [e, List.mem_append]
  rintro (q | q)
  · exact n q
  · obtain ⟨ps, z⟩ := f a q u h
    exact nt ps z
theorem Le.keep {ρ ρ' : List Addr} {H H' : Hp} (l : Le ρ H ρ' H') {a : Addr} {u : HO} (h : H a = some u) (n : a ∉ ρ) (nt : NT u := by (intro _ z; cases z)) : H' a = some u := l.stay a u h n nt
theorem Le.trans {ρ ρ1 ρ2 : List Addr} {H H1 H2 : Hp} (l : Le ρ H ρ1 H1) (m : Le ρ1 H1 ρ2 H2) : Le ρ H ρ2 H2 := by
  obtain ⟨t, e, f⟩ := l.grow
  obtain ⟨t2, e2, f2⟩ := m.grow
  refine ⟨⟨t ++ t2, by rw [e2, e, List.append_assoc], fun a ha => ?_⟩, fun a u h n nt => m.stay a u (l.stay a u h n nt) (l.nin h n nt) nt, fun a h => l.dom a (m.dom a h)⟩
  rcases List.mem_append.mp ha with q | q
  · exact f a q
  · exact l.dom a (f2 a q)
theorem Le.get {ρ ρ' : List Addr} {H H' : Hp} (l : Le ρ H ρ' H') {n : Nat} {a : Addr} (h : ρ[n]? = some a) : ρ'[n]? = some a := by
  obtain ⟨t, e, _⟩ := l.grow
  rw [e, List.getElem?_append_left (List.getElem?_eq_some_iff.mp h).1]
  exact h
theorem Le.rd {ρ ρ' : List Addr} {H H' : Hp} (l : Le ρ H ρ' H') {a : Addr} {u : HO} (h : Rd H a u) (n : a ∉ ρ) (nt : NT u := by (intro _ z; cases z)) : Rd H' a u ∧ a ∉ ρ' := by
  rcases h with h | ⟨o, h⟩
  · exact ⟨.inl (l.keep h n nt), l.nin h n nt⟩
  · exact ⟨.inr ⟨o, l.keep h n⟩, l.nin h n⟩
/-- a new object -/
theorem Le.new {ρ : List Addr} {H : Hp} {p : Addr} {o : HO} (h : H p = none) : Le ρ H ρ (upd H p o) :=
  ⟨⟨[], by simp⟩, fun a u q _ _ => by rw [upd_ne (ne_of_none q h)]; exact q, fun a q => by
    by_cases e : a = p
    · rw [e]; exact .of h
    · intro u z; exact q u (by rw [upd_ne e]; exact z)⟩
/-- a new place of the store -/
theorem Le.place {ρ : List Addr} {H : Hp} {p : Addr} {o : HO} (h : H p = none) : Le ρ H (ρ ++ [p]) (upd H p o) :=
  ⟨⟨[p], rfl, fun a q => by rw [List.mem_singleton.mp q]; exact .of h⟩, (Le.new (ρ := ρ) h).stay, (Le.new (ρ := ρ) h).dom⟩
/-- a place of the store is written -/
theorem Le.put {ρ : List Addr} {H : Hp} {p : Addr} {o u : HO} (h : H p = some u) (hp : p ∈ ρ) (nt : NT o := by (intro _ z; cases z)) : Le ρ H ρ (upd H p o) :=
  ⟨⟨[], by simp⟩, fun a u q n _ => by rw [upd_ne (show a ≠ p from fun e => n (by rw [e]; exact hp))]; exact q, fun a q => by
    by_cases e : a = p
    · obtain ⟨ps, z⟩ := q o (by rw [e, upd_same])
      exact absurd z (nt ps)
    · intro u z; exact q u (by rw [upd_ne e]; exact z)⟩
/-- all but the tables stays -/
theorem Le.ext {ρ : List Addr} {H H' : Hp} (e : LamX.ExtN H H') : Le ρ H ρ H' :=
  ⟨⟨[], by simp⟩, fun a u q _ nt => e a u q nt, fun a q u z => by
    by_cases nt : NT u
    · exact q u (e a u z nt)
    · obtain ⟨ps, h⟩ := Classical.not_forall.mp nt
      exact ⟨ps, Classical.not_not.mp h⟩⟩
mutual
inductive Is (T : Tab) (ρ : List Addr) (H : Hp) : D → V → Prop
  | non : Is T ρ H .non .non
  | bl (b : Bool) : Is T ρ H (.bl b) (.bl b)
  | int (i : Int) : Is T ρ H (.int i) (.int i)
  | str (x : Str) : Is T ρ H (.str x) (.str x)
  | tup {a : Addr} {xs : List V} {ds : List D} : H a = some (.tup xs) → a ∉ ρ → Iss T ρ H ds xs → Is T ρ H (.tup ds) (.ref a)
  | lst {a : Addr} {xs : List V} {ds : List D} : H a = some (.lst xs) → a ∉ ρ → Iss T ρ H ds xs → Is T ρ H (.lst ds) (.ref a)
  | scr {a : Addr} {o : Obj} {xs : List V} {ds : List D} : H a = some (.frz o (.lst xs)) → a ∉ ρ → Iss T ρ H ds xs → Is T ρ H (.scr ds) (.ref a)
  | dic {a : Addr} {ks : List Key} {xs : List V} {ds : List D} : H a = some (.dK (ks.zip xs)) → a ∉ ρ → ks.length = ds.length → Iss T ρ H ds xs → Is T ρ H (.dic ks ds) (.ref a)
  | ref {n : Nat} {a : Addr} : ρ[n]? = some a → Is T ρ H (.ref n) (.ref a)
  | con (v : V) : Is T ρ H (.con v) v
  | exc {c : Nat} {a : Addr} {d : Option Addr} {xs : List V} {ds : List D} : H a = some (ExcO a (T.cls c) d) → a ∉ ρ → Iss T ρ H ds xs → (T.flds c).length = ds.length →
      ((T.flds c = [] ∧ d = none) ∨ ∃ dx, d = some dx ∧ dx ∉ ρ ∧ H dx = some (.xd ((T.flds c).zip xs))) → Is T ρ H (.exc c ds) (.ref a)
  | lam {f : Addr} {P : List Addr → Hp → Prop} : (∀ ρ H ρ' H', Le ρ H ρ' H' → P ρ H → P ρ' H') → P ρ H → Is T ρ H (.lam f P) (.ref f)
  | obj {c : Nat} {a dx : Addr} {xs : List V} {ds : List D} : H a = some (.ins (T.cls c) dx ((T.flds c).zip xs)) → a ∉ ρ → Iss T ρ H ds xs → Is T ρ H (.obj c ds) (.ref a)
inductive Iss (T : Tab) (ρ : List Addr) (H : Hp) : List D → List V → Prop
  | nil : Iss T ρ H [] []
  | cons {d : D} {v : V} {ds : List D} {vs : List V} : Is T ρ H d v → Iss T ρ H ds vs → Iss T ρ H (d :: ds) (v :: vs)
end

/-- no exception's object is a table -/
theorem ExcO_nt {a C : Addr} {d : Option Addr} : NT (ExcO a C d) := fun ps z => by unfold ExcO at z; cases z

mutual
theorem Is.le {T : Tab} {ρ ρ' : List Addr} {H H' : Hp} (l : Le ρ H ρ' H') : ∀ {d : D} {v : V}, Is T ρ H d v → Is T ρ' H' d v
  | _, _, .non => .non
  | _, _, .bl b => .bl b
  | _, _, .int i => .int i
  | _, _, .str x => .str x
  | _, _, .tup h n r => .tup (l.keep h n) (l.nin h n) (Iss.le l r)
  | _, _, .lst h n r => .lst (l.keep h n) (l.nin h n) (Iss.le l r)
  | _, _, .scr h n r => .scr (l.keep h n) (l.nin h n) (Iss.le l r)
  | _, _, .dic h n e r => .dic (l.keep h n) (l.nin h n) e (Iss.le l r)
  | _, _, .ref h => .ref (l.get h)
  | _, _, .con v => .con v
  | _, _, .exc h n r e q => .exc (l.keep h n ExcO_nt) (l.nin h n ExcO_nt) (Iss.le l r) e (q.elim .inl fun ⟨dx, e1, e2, e3⟩ => .inr ⟨dx, e1, l.nin e3 e2, l.keep e3 e2⟩)
  | _, _, .obj h n r => .obj (l.keep h n) (l.nin h n) (Iss.le l r)
  | _, _, .lam mono p => .lam mono (mono _ _ _ _ l p)
theorem Iss.le {T : Tab} {ρ ρ' : List Addr} {H H' : Hp} (l : Le ρ H ρ' H') : ∀ {ds : List D} {vs : List V}, Iss T ρ H ds vs → Iss T ρ' H' ds vs
  | _, _, .nil => .nil
  | _, _, .cons a b => .cons (Is.le l a) (Iss.le l b)
end
theorem Iss.len {T : Tab} {ρ : List Addr} {H : Hp} : ∀ {ds : List D} {vs : List V}, Iss T ρ H ds vs → ds.length = vs.length
  | _, _, .nil => rfl
  | _, _, .cons _ b => by simp [Iss.len b]
theorem Iss.get {T : Tab} {ρ : List Addr} {H : Hp} : ∀ {ds : List D} {vs : List V} {i : Nat} {d : D}, Iss T ρ H ds vs → ds[i]? = some d → ∃ v, vs[i]? = some v ∧ Is T ρ H d v
  | _, _, _, _, .nil, e => by simp at e
  | _, _, 0, _, .cons a _, e => by simp at e; subst e; exact ⟨_, rfl, a⟩
  | _, _, i + 1, d, .cons _ b, e => by
    obtain ⟨u, h1, h2⟩ := Iss.get (i := i) (d := d) b (by simpa using e)
    exact ⟨u, by simpa using h1, h2⟩
theorem Iss.app {T : Tab} {ρ : List Addr} {H : Hp} : ∀ {ds es : List D} {vs us : List V}, Iss T ρ H ds vs → Iss T ρ H es us → Iss T ρ H (ds ++ es) (vs ++ us)
  | _, _, _, _, .nil, s => s
  | _, _, _, _, .cons a b, s => .cons a (Iss.app b s)
theorem Iss.set {T : Tab} {ρ : List Addr} {H : Hp} {d : D} {v : V} (r : Is T ρ H d v) : ∀ {ds : List D} {vs : List V} (i : Nat), Iss T ρ H ds vs → Iss T ρ H (ds.set i d) (vs.set i v)
  | _, _, _, .nil => .nil
  | _, _, 0, .cons _ b => .cons r b
  | _, _, i + 1, .cons a b => .cons a (Iss.set r i b)
theorem Iss.take {T : Tab} {ρ : List Addr} {H : Hp} : ∀ {ds : List D} {vs : List V} (n : Nat), Iss T ρ H ds vs → Iss T ρ H (ds.take n) (vs.take n)
  | _, _, 0, _ => .nil
  | _, _, _ + 1, .nil => .nil
  | _, _, n + 1, .cons a b => .cons a (Iss.take n b)
theorem Iss.drop {T : Tab} {ρ : List Addr} {H : Hp} : ∀ {ds : List D} {vs : List V} (n : Nat), Iss T ρ H ds vs → Iss T ρ H (ds.drop n) (vs.drop n)
  | _, _, 0, r => r
  | _, _, _ + 1, .nil => .nil
  | _, _, n + 1, .cons _ b => Iss.drop n b

/-- the object ob of the store stands at a -/
def ObIs (T : Tab) (ρ : List Addr) (H : Hp) : Ob → Addr → Prop
  | .lst ds, a => ∃ xs, H a = some (.lst xs) ∧ Iss T ρ H ds xs
  | .dic ks ds, a => ∃ xs, H a = some (.dK (ks.zip xs)) ∧ ks.length = ds.length ∧ Iss T ρ H ds xs
  | .ins c ds, a => ∃ dx xs, H a = some (.ins (T.cls c) dx ((T.flds c).zip xs)) ∧ Iss T ρ H ds xs
theorem ObIs.le {T : Tab} {ρ ρ' : List Addr} {H H' : Hp} {ob : Ob} {a : Addr} (l : Le ρ H ρ' H') (h : ObIs T ρ H ob a) (e : H' a = H a) : ObIs T ρ' H' ob a := by
  cases ob with
  | lst ds => obtain ⟨xs, q, r⟩ := h; exact ⟨xs, e.trans q, r.le l⟩
  | dic ks ds => obtain ⟨xs, q, z, r⟩ := h; exact ⟨xs, e.trans q, z, r.le l⟩
  | ins c ds => obtain ⟨dx, xs, q, r⟩ := h; exact ⟨dx, xs, e.trans q, r.le l⟩
theorem ObIs.some {T : Tab} {ρ : List Addr} {H : Hp} {ob : Ob} {a : Addr} (h : ObIs T ρ H ob a) : ∃ u, H a = some u := by
  cases ob with
  | lst ds => obtain ⟨xs, q, r⟩ := h; exact ⟨_, q⟩
  | dic ks ds => obtain ⟨xs, q, z, r⟩ := h; exact ⟨_, q⟩
  | ins c ds => obtain ⟨dx, xs, q, r⟩ := h; exact ⟨_, q⟩
/-- the store m lies in H -/
structure StOk (T : Tab) (ρ : List Addr) (m : S) (H : Hp) : Prop where
  len : ρ.length = m.length
  nd : ρ.Nodup
  obs : ∀ (n : Nat) (a : Addr) (ob : Ob), ρ[n]? = some a → m[n]? = some ob → ObIs T ρ H ob a
  tabs : LamX.Tabs T.tabs H
theorem tabs_put {T : List (Addr × Str)} {H : Hp} {p : Addr} {o u : HO} (t : LamX.Tabs T H) (h : H p = some u) (n1 : NT u) (n2 : ∀ c q, u ≠ LamX.CodeO c q) : LamX.Tabs T (upd H p o) := fun x hx => by
  obtain ⟨ps, h1, h2, h3⟩ := t x hx
  refine ⟨ps, by rw [upd_ne (fun z => n1 ps (Option.some.inj (h.symm.trans (by rw [← z]; exact h1))))]; exact h1, h2, fun pos cv e => ?_⟩
  obtain ⟨c, e1, e2⟩ := h3 pos cv e
  exact ⟨c, e1, by rw [upd_ne (fun z => n2 c x.2 (Option.some.inj (h.symm.trans (by rw [← z]; exact e2))))]; exact e2⟩
theorem tabs_new {T : List (Addr × Str)} {H : Hp} {p : Addr} {o : HO} (t : LamX.Tabs T H) (h : H p = none) : LamX.Tabs T (upd H p o) := t.ext fun b u e => by rw [upd_ne (ne_of_none e h)]; exact e
section
variable {T : Tab} {ρ : List Addr} {m : S} {H : Hp}
theorem StOk.at (s : StOk T ρ m H) {n : Nat} {ob : Ob} (h : m[n]? = some ob) : ∃ a, ρ[n]? = some a ∧ ObIs T ρ H ob a := by
  have hn : n < ρ.length := by rw [s.len]; exact (List.getElem?_eq_some_iff.mp h).1
  exact ⟨ρ[n], List.getElem?_eq_getElem hn, s.obs n _ ob (List.getElem?_eq_getElem hn) h⟩
theorem StOk.trk (s : StOk T ρ m H) {a : Addr} (h : a ∈ ρ) : ∃ u, H a = some u := by
  obtain ⟨n, hn, e⟩ := List.mem_iff_getElem.mp h
  have hm : n < m.length := by rw [← s.len]; exact hn
  exact (s.obs n a m[n] (by rw [List.getElem?_eq_getElem hn, e]) (List.getElem?_eq_getElem hm)).some
theorem StOk.trk2 (s : StOk T ρ m H) {a : Addr} (h : a ∈ ρ) : ∃ u, H a = some u ∧ NT u ∧ ∀ c q, u ≠ LamX.CodeO c q := by
  obtain ⟨n, hn, e⟩ := List.mem_iff_getElem.mp h
  have hm : n < m.length := by rw [← s.len]; exact hn
  have ob := s.obs n a m[n] (by rw [List.getElem?_eq_getElem hn, e]) (List.getElem?_eq_getElem hm)
  cases z : m[n] with
  | lst ds => rw [z] at ob; obtain ⟨xs, q, _⟩ := ob; exact ⟨_, q, by (intro _ z; cases z), by (intro _ _ z; unfold LamX.CodeO at z; cases z)⟩
  | dic ks ds => rw [z] at ob; obtain ⟨xs, q, _⟩ := ob; exact ⟨_, q, by (intro _ z; cases z), by (intro _ _ z; unfold LamX.CodeO at z; cases z)⟩
  | ins c ds => rw [z] at ob; obtain ⟨dx, xs, q, _⟩ := ob; exact ⟨_, q, by (intro _ z; cases z), by (intro _ _ z; unfold LamX.CodeO at z; cases z)⟩
theorem StOk.free (s : StOk T ρ m H) {p : Addr} (h : H p = none) : p ∉ ρ := fun q => by
  obtain ⟨u, e⟩ := s.trk q
  rw [h] at e; cases e
theorem StOk.new (s : StOk T ρ m H) {p : Addr} {o : HO} (h : H p = none) : StOk T ρ m (upd H p o) :=
  ⟨s.len, s.nd, fun n a ob e1 e2 => (s.obs n a ob e1 e2).le (Le.new h) (upd_ne fun z => s.free h (z ▸ List.mem_of_getElem? e1)), tabs_new s.tabs h⟩
theorem StOk.place (s : StOk T ρ m H) {p : Addr} {o : HO} {ob : Ob} (h : H p = none) (hob : ObIs T (ρ ++ [p]) (upd H p o) ob p) : StOk T (ρ ++ [p]) (m ++ [ob]) (upd H p o) := by
  refine ⟨by simp [s.len], ?_, fun n a ob' e1 e2 => ?_, tabs_new s.tabs h⟩
  · rw [List.nodup_append]
    exact ⟨s.nd, by simp, fun a ha b hb z => s.free h (by rw [← List.mem_singleton.mp hb, ← z]; exact ha)⟩
  · by_cases hn : n < ρ.length
    · rw [List.getElem?_append_left hn] at e1
      rw [List.getElem?_append_left (by rw [← s.len]; exact hn)] at e2
      exact (s.obs n a ob' e1 e2).le (Le.place h) (upd_ne fun z => s.free h (z ▸ List.mem_of_getElem? e1))
    · rw [List.getElem?_append_right (by omega)] at e1
      rw [List.getElem?_append_right (by rw [← s.len]; omega)] at e2
      have z : n - ρ.length = 0 := by
        have := (List.getElem?_eq_some_iff.mp e1).1
        simp at this; omega
      rw [z] at e1
      rw [← s.len, z] at e2
      cases e1; cases e2
      exact hob
theorem StOk.put (s : StOk T ρ m H) {n : Nat} {p : Addr} {o : HO} {ob : Ob} (hp : ρ[n]? = some p) (hob : ObIs T ρ (upd H p o) ob p) (nt : NT o := by (intro _ z; cases z)) : StOk T ρ (m.set n ob) (upd H p o) := by
  obtain ⟨u, hu, nu1, nu2⟩ := s.trk2 (List.mem_of_getElem? hp)
  refine ⟨by simp [s.len], s.nd, fun k a ob' e1 e2 => ?_, tabs_put s.tabs hu nu1 nu2⟩
  by_cases hk : k = n
  · subst hk
    rw [hp] at e1; cases e1
    have : k < m.length := by rw [← s.len]; exact (List.getElem?_eq_some_iff.mp hp).1
    rw [List.getElem?_set_self this] at e2
    cases e2
    exact hob
  · rw [List.getElem?_set_ne (Ne.symm hk)] at e2
    refine (s.obs k a ob' e1 e2).le (Le.put hu (List.mem_of_getElem? hp) nt) (upd_ne fun z => hk ?_)
    subst z
    obtain ⟨h1, q1⟩ := List.getElem?_eq_some_iff.mp e1
    obtain ⟨h2, q2⟩ := List.getElem?_eq_some_iff.mp hp
    exact (List.getElem_inj s.nd).mp (q1.trans q2.symm)
end
theorem StOk.ext {T : Tab} {ρ : List Addr} {m : S} {H H' : Hp} (s : StOk T ρ m H) (e : LamX.ExtN H H') (t : LamX.Tabs T.tabs H') : StOk T ρ m H' :=
  ⟨s.len, s.nd, fun n a ob e1 e2 => by
    have ob1 := s.obs n a ob e1 e2
    obtain ⟨u, hu, nu, _⟩ := s.trk2 (List.mem_of_getElem? e1)
    exact ob1.le (Le.ext e) (by rw [e a u hu nu, hu]), t⟩
/-- the frame's values -/
abbrev Env' := List (Option D)
structure EnvOk (T : Tab) (ρ : List Addr) (H : Hp) (μ : Env') (σ : L2.St) : Prop where
  len : μ.length = σ.length
  val : ∀ (i : Nat) (d : D), μ[i]? = some (some d) → ∃ v, σ[i]? = some (some v) ∧ Is T ρ H d v
theorem EnvOk.le {T : Tab} {ρ ρ' : List Addr} {H H' : Hp} {μ : Env'} {σ : L2.St} (e : EnvOk T ρ H μ σ) (l : Le ρ H ρ' H') : EnvOk T ρ' H' μ σ :=
  ⟨e.len, fun i d h => let ⟨v, h1, h2⟩ := e.val i d h; ⟨v, h1, h2.le l⟩⟩
theorem EnvOk.set {T : Tab} {ρ : List Addr} {H : Hp} {μ : Env'} {σ : L2.St} (e : EnvOk T ρ H μ σ) {d : D} {v : V} (r : Is T ρ H d v) (i : Nat) : EnvOk T ρ H (μ.set i (some d)) (σ.set i (some v)) := by
  refine ⟨by simp [e.len], fun j d' h => ?_⟩
  by_cases hj : j = i
  · subst hj
    have hl : j < μ.length := by
      have := (List.getElem?_eq_some_iff.mp h).1
      simpa using this
    rw [List.getElem?_set_self hl] at h
    cases h
    exact ⟨v, List.getElem?_set_self (by rw [← e.len]; exact hl), r⟩
  · rw [List.getElem?_set_ne (Ne.symm hj)] at h
    obtain ⟨w, h1, h2⟩ := e.val j d' h
    exact ⟨w, by rw [List.getElem?_set_ne (Ne.symm hj)]; exact h1, h2⟩
theorem EnvOk.clear {T : Tab} {ρ : List Addr} {H : Hp} {μ : Env'} {σ : L2.St} (e : EnvOk T ρ H μ σ) (i : Nat) : EnvOk T ρ H (μ.set i none) (σ.set i none) := by
  refine ⟨by simp [e.len], fun j d' h => ?_⟩
  by_cases hj : j = i
  · subst hj
    have hl : j < μ.length := by
      have := (List.getElem?_eq_some_iff.mp h).1
      simpa using this
    rw [List.getElem?_set_self hl] at h
    cases h
  · rw [List.getElem?_set_ne (Ne.symm hj)] at h
    obtain ⟨w, h1, h2⟩ := e.val j d' h
    exact ⟨w, by rw [List.getElem?_set_ne (Ne.symm hj)]; exact h1, h2⟩

/-- a result: a value and the store; an exception of the class c with its fields; what is not told -/
inductive R (α : Type) where
  | ok (a : α) (m : S)
  | err (c : Nat) (fs : List D) (m : S)
  | bad
def R.bind {α β : Type} : R α → (α → S → R β) → R β
  | .ok a m, f => f a m
  | .err c fs m, _ => .err c fs m
  | .bad, _ => .bad
@[simp] theorem R.bind_ok {α β : Type} (a : α) (m : S) (f : α → S → R β) : (R.ok a m).bind f = f a m := rfl
@[simp] theorem R.bind_err {α β : Type} (c : Nat) (fs : List D) (m : S) (f : α → S → R β) : (R.err c fs m).bind f = .err c fs m := rfl
@[simp] theorem R.bind_bad {α β : Type} (f : α → S → R β) : (R.bad : R α).bind f = .bad := rfl

/-- an exception of the class c, with the fields fs, its own dict d -/
def ExcIs (T : Tab) (ρ : List Addr) (H : Hp) (c : Nat) (fs : List D) (cls : Value) (d : Option Addr) : Prop :=
  cls = .ref (T.cls c) ∧ ∃ xs, Iss T ρ H fs xs ∧ (T.flds c).length = fs.length ∧ ((T.flds c = [] ∧ d = none) ∨ ∃ dx, d = some dx ∧ dx ∉ ρ ∧ H dx = some (.xd ((T.flds c).zip xs)))
theorem ExcIs.le {T : Tab} {ρ ρ' : List Addr} {H H' : Hp} {c : Nat} {fs : List D} {cls : Value} {d : Option Addr} (l : Le ρ H ρ' H') (h : ExcIs T ρ H c fs cls d) : ExcIs T ρ' H' c fs cls d := by
  obtain ⟨h1, xs, h2, h3, h4⟩ := h
  exact ⟨h1, xs, h2.le l, h3, h4.elim .inl fun ⟨dx, e1, e2, e3⟩ => .inr ⟨dx, e1, l.nin e3 e2, l.keep e3 e2⟩⟩

/-- what is asked behind a result r that began at ρ, H -/
def Po {α β : Type} (T : Tab) (rel : List Addr → Hp → α → β → Prop) (ρ : List Addr) (H : Hp) (r : R α) (Q : β → Hp → Prop) (E : L2.XK) : Prop :=
  match r with
  | .ok a m => ∀ (ρ' : List Addr) (H' : Hp) (b : β), Le ρ H ρ' H' → StOk T ρ' m H' → rel ρ' H' a b → Q b H'
  | .err c fs m => ∀ (ρ' : List Addr) (H' : Hp) (cls : Value) (d : Option Addr), Le ρ H ρ' H' → StOk T ρ' m H' → ExcIs T ρ' H' c fs cls d → E cls d H'
  | .bad => False
theorem Po.le {α β : Type} {T : Tab} {rel : List Addr → Hp → α → β → Prop} {ρ ρ' : List Addr} {H H' : Hp} {r : R α} {Q : β → Hp → Prop} {E : L2.XK} (h : Po T rel ρ H r Q E) (l : Le ρ H ρ' H') : Po T rel ρ' H' r Q E := by
  cases r with
  | ok a m => exact fun ρ2 H2 b l2 s r => h ρ2 H2 b (l.trans l2) s r
  | err c fs m => exact fun ρ2 H2 cls d l2 s r => h ρ2 H2 cls d (l.trans l2) s r
  | bad => exact h
theorem Po.mono {α β : Type} {T : Tab} {rel : List Addr → Hp → α → β → Prop} {ρ : List Addr} {H : Hp} {r : R α} {Q Q' : β → Hp → Prop} {E E' : L2.XK} (h : Po T rel ρ H r Q E) (hq : ∀ b H, Q b H → Q' b H) (he : ∀ c d H, E c d H → E' c d H) : Po T rel ρ H r Q' E' := by
  cases r with
  | ok a m => exact fun ρ2 H2 b l2 s r => hq _ _ (h ρ2 H2 b l2 s r)
  | err c fs m => exact fun ρ2 H2 cls d l2 s r => he _ _ _ (h ρ2 H2 cls d l2 s r)
  | bad => exact h
abbrev PoD (T : Tab) := Po (α := D) (β := V) T (Is T)
abbrev PoL (T : Tab) := Po (α := List D) (β := List V) T (Iss T)

abbrev E1 := Env' → S → R D
abbrev EL := Env' → S → R (List D)
/-- an expression's reading by its function -/
def TD (T : Tab) (W : L2.WX) (f : E1) : L2.TE := fun σ H Q => ∃ ρ m μ, StOk T ρ m H ∧ EnvOk T ρ H μ σ ∧ PoD T ρ H (f μ m) Q fun c d H' => W c d σ H'
def TL (T : Tab) (W : L2.WX) (f : EL) : L2.TA := fun σ H Q => ∃ ρ m μ, StOk T ρ m H ∧ EnvOk T ρ H μ σ ∧ PoL T ρ H (f μ m) Q fun c d H' => W c d σ H'
section
variable {T : Tab} {W : L2.WX} {ρ : List Addr} {m : S} {μ : Env'} {σ : L2.St} {H : Hp} {E : L2.XK}
theorem TD.bind {β γ : Type} {rel : List Addr → Hp → β → γ → Prop} {f : E1} {g : D → S → R β} {Q : γ → Hp → Prop} (st : StOk T ρ m H) (ev : EnvOk T ρ H μ σ) (h : Po T rel ρ H ((f μ m).bind g) Q fun c d H' => W c d σ H') :
    TD T W f σ H fun v H1 => ∃ ρ1 m1 d, Le ρ H ρ1 H1 ∧ StOk T ρ1 m1 H1 ∧ EnvOk T ρ1 H1 μ σ ∧ Is T ρ1 H1 d v ∧ Po T rel ρ1 H1 (g d m1) Q fun c d H' => W c d σ H' := by
  refine ⟨ρ, m, μ, st, ev, ?_⟩
  cases e : f μ m with
  | ok d m1 =>
    rw [e] at h
    exact fun ρ1 H1 v l s r => ⟨ρ1, m1, d, l, s, ev.le l, r, h.le l⟩
  | err c fs m1 =>
    rw [e] at h
    exact h
  | bad =>
    rw [e] at h
    exact h
theorem TL.bind {β γ : Type} {rel : List Addr → Hp → β → γ → Prop} {f : EL} {g : List D → S → R β} {Q : γ → Hp → Prop} (st : StOk T ρ m H) (ev : EnvOk T ρ H μ σ) (h : Po T rel ρ H ((f μ m).bind g) Q fun c d H' => W c d σ H') :
    TL T W f σ H fun v H1 => ∃ ρ1 m1 d, Le ρ H ρ1 H1 ∧ StOk T ρ1 m1 H1 ∧ EnvOk T ρ1 H1 μ σ ∧ Iss T ρ1 H1 d v ∧ Po T rel ρ1 H1 (g d m1) Q fun c d H' => W c d σ H' := by
  refine ⟨ρ, m, μ, st, ev, ?_⟩
  cases e : f μ m with
  | ok d m1 =>
    rw [e] at h
    exact fun ρ1 H1 v l s r => ⟨ρ1, m1, d, l, s, ev.le l, r, h.le l⟩
  | err c fs m1 =>
    rw [e] at h
    exact h
  | bad =>
    rw [e] at h
    exact h
end
/-- a reading that is weaker -/
theorem pe_imp {X : Cx} {e : Expr} {t t' : L2.TE} (h : PE X e t) (w : ∀ σ H Q, t' σ H Q → t σ H Q) : PE X e t' := ⟨fun pins s σ H Q I q => h.run pins s σ H Q I (w σ H Q q)⟩
theorem pa_imp {X : Cx} {e : List Expr} {t t' : L2.TA} (h : PA X e t) (w : ∀ σ H Q, t' σ H Q → t σ H Q) : PA X e t' := ⟨fun pos pins s σ H Q I q => h.run pos pins s σ H Q I (w σ H Q q)⟩
theorem pt_imp {X : Cx} {e : Expr} {t t' : L2.TT} (h : PT X e t) (w : ∀ σ H Q, t' σ H Q → t σ H Q) : PT X e t' := ⟨fun pins s σ H Q I q => h.run pins s σ H Q I (w σ H Q q)⟩
theorem ps_imp {X : Cx} {e : Stmt} {t t' : L2.TS} (h : PS X e t) (w : ∀ D σ H, t' D σ H → t D σ H) : PS X e t' := ⟨fun pins s σ H Q I q => h.run pins s σ H Q I (w Q σ H q)⟩

/-! ### names, constants, operators -/
section
variable {X : Cx} {T : Tab} {W : L2.WX} {pos : Pos}
def var (i : Nat) : E1 := fun μ m => match μ[i]? with
  | some (some d) => .ok d m
  | _ => .bad
def cst (d : D) : E1 := fun _ m => .ok d m
theorem pd_var {i : Nat} {x : Str} (h : PE X (.Name x pos) (L2.tVar i)) : PE X (.Name x pos) (TD T W (var i)) := pe_imp h fun σ H Q ⟨ρ, m, μ, st, ev, h⟩ => by
  unfold var at h
  split at h
  · rename_i d hd
    obtain ⟨v, e, r⟩ := ev.val i d hd
    exact ⟨v, e, h ρ H v (.refl _ _) st r⟩
  · exact h.elim
theorem pd_cst {e : Expr} {v : V} {d : D} (h : PE X e (L2.tC v)) (r : ∀ ρ H, Is T ρ H d v) : PE X e (TD T W (cst d)) := pe_imp h fun σ H Q ⟨ρ, m, μ, st, ev, h⟩ => h ρ H v (.refl _ _) st (r ρ H)
/-- two values -/
abbrev OpF := D → D → S → R D
def bin (g : OpF) (f1 f2 : E1) : E1 := fun μ m => (f1 μ m).bind fun x m1 => (f2 μ m1).bind fun y m2 => g x y m2
/-- the operator's function tells the rule r -/
def OpD (r : L2.R2) (g : OpF) : Prop := ∀ (T : Tab) (ρ : List Addr) (m : S) (H : Hp) (x y : D) (v w : V) (Q : L2.VK) (E : L2.XK), StOk T ρ m H → Is T ρ H x v → Is T ρ H y w → PoD T ρ H (g x y m) Q E → r v w H Q
theorem pd_bin {a b : Expr} {op : Operator} {r : L2.R2} {g : OpF} {f1 f2 : E1} (hg : OpD r g) (ho : OpR X (binaryOp op) r) (ha : PE X a (TD T W f1)) (hb : PE X b (TD T W f2)) : PE X (.BinOp a op b pos) (TD T W (bin g f1 f2)) :=
  pe_imp (pe_op ho ha hb) fun σ H Q ⟨ρ, m, μ, st, ev, h⟩ => by
    obtain ⟨ρ0, m0, μ0, s0, e0, h0⟩ := TD.bind st ev h
    refine ⟨ρ0, m0, μ0, s0, e0, h0.mono (fun v H1 ⟨ρ1, m1, d, l1, st1, ev1, r1, h1⟩ => ?_) fun _ _ _ z => z⟩
    obtain ⟨ρ0, m0, μ0, s0, e0, h0⟩ := TD.bind st1 ev1 h1
    refine ⟨ρ0, m0, μ0, s0, e0, h0.mono (fun w H2 ⟨ρ2, m2, d2, l2, st2, ev2, r2, h2⟩ => ?_) fun _ _ _ z => z⟩
    exact hg T ρ2 m2 H2 d d2 v w Q _ st2 (r1.le l2) r2 h2
theorem pd_cmp {a b : Expr} {op : CmpOp} {r : L2.R2} {g : OpF} {f1 f2 : E1} (hg : OpD r g) (ho : OpR X (compareOp op) r) (hm : behindInMarks op b = false) (ha : PE X a (TD T W f1)) (hb : PE X b (TD T W f2)) : PE X (.Compare a [op] [b] pos) (TD T W (bin g f1 f2)) :=
  pe_imp (pe_cmpR ho ha hb hm) fun σ H Q ⟨ρ, m, μ, st, ev, h⟩ => by
    obtain ⟨ρ0, m0, μ0, s0, e0, h0⟩ := TD.bind st ev h
    refine ⟨ρ0, m0, μ0, s0, e0, h0.mono (fun v H1 ⟨ρ1, m1, d, l1, st1, ev1, r1, h1⟩ => ?_) fun _ _ _ z => z⟩
    obtain ⟨ρ0, m0, μ0, s0, e0, h0⟩ := TD.bind st1 ev1 h1
    refine ⟨ρ0, m0, μ0, s0, e0, h0.mono (fun w H2 ⟨ρ2, m2, d2, l2, st2, ev2, r2, h2⟩ => ?_) fun _ _ _ z => z⟩
    exact hg T ρ2 m2 H2 d d2 v w Q _ st2 (r1.le l2) r2 h2
end
end DL
end

section
set_option Elab.async false
set_option maxRecDepth 100000
set_option maxHeartbeats 4000000
set_option linter.all false
/-! D2: defs by their functions, statements, loops. -/
namespace DL
open PySem PySem.Spec PyProof.Rows L2

/-- room, and no text is being shown around -/
structure Rg (k : Nat) (A : Around) : Prop where
  room : Room k A
  gd : A.guards = some []
theorem Rg.mono {j k : Nat} {A : Around} (r : Rg k A) (h : j ≤ k) : Rg j A := ⟨r.room.mono h, r.gd⟩
theorem Rg.deeper {k : Nat} {A : Around} (r : Rg (k + 1) A) (env : Env) : Rg k (A.deeper env) := ⟨r.room.deeper env, r.gd⟩
/-- the def at f keeps the promise sp -/
structure FnG (P : Program) (w : World) (K : PySem.W.Frag) (mg : Str → Option Value) (base : Heap) (k : Nat) (f : Addr) (fd : FuncData) (ps : List Str) (sp : Sp) : Prop where
  len : ∀ vs H Q E, sp vs H Q E → vs.length = ps.length
  run : ∀ (A : Around) (outer : List Env) (s : Shared) (H : Hp) (args : Args) (us : List Value) (vs : List V) (Q : VK) (E : XK), Rg k A → Env0 P w K mg base A outer s H → BindsTo s fd args (ps.zip us) → Vals vs us → sp vs H Q E →
    codeAny (model P w) A (.call (.ref f) args) (CR (L2.CX P w) outer P w H s Q E) s
theorem FnG.mono {P : Program} {w : World} {K : PySem.W.Frag} {mg : Str → Option Value} {base : Heap} {j k : Nat} {f : Addr} {fd : FuncData} {ps : List Str} {sp : Sp} (F : FnG P w K mg base j f fd ps sp) (h : j ≤ k) : FnG P w K mg base k f fd ps sp :=
  ⟨F.len, fun A outer s H args us vs Q E r => F.run A outer s H args us vs Q E (r.mono h)⟩
theorem FnG.imp {P : Program} {w : World} {K : PySem.W.Frag} {mg : Str → Option Value} {base : Heap} {k : Nat} {f : Addr} {fd : FuncData} {ps : List Str} {sp sp' : Sp} (F : FnG P w K mg base k f fd ps sp) (h : ∀ vs H Q E, sp' vs H Q E → sp vs H Q E) : FnG P w K mg base k f fd ps sp' :=
  ⟨fun vs H Q E z => F.len vs H Q E (h _ _ _ _ z), fun A outer s H args us vs Q E r e b v z => F.run A outer s H args us vs Q E r e b v (h _ _ _ _ z)⟩
/-- a def by its body -/
theorem fn_g {P : Program} {w : World} {K : PySem.W.Frag} {mg : Str → Option Value} {base : Heap} {k : Nat} {f : Addr} {name qual : Str} {params : Arguments} {body : List Stmt} {scope : Scope} {dV kV doc pm cdv ct oc : Value} {an od : Option Addr} {osl : Array (Option Value)} {N ps : List Str} {sp : Sp}
    (lk : K.lookup f = some ⟨oc, od, .func (PySem.W.fnOf name qual params body scope dV kV doc pm an cdv ct), osl⟩) (hcd : PySem.W.codeIn K cdv qual = true) (sc : FnScope N ps scope) (len : ∀ vs H Q E, sp vs H Q E → vs.length = ps.length)
    (hb : ∀ (A : Around) (outer : List Env) (s : Shared) (H : Hp) (vs : List V) (Q : VK) (E : XK), Rg k (A.deeper (envOfC qual scope s.heap.objs.size f cdv)) → sp vs H Q E →
      ∃ t, PSs (cxOf (L2.CX P w) P w K mg base N qual scope f cdv A outer s H E) body t ∧ t { nx := fun _ H' => Q .non H', rt := Q } (L2.start N vs) H) :
    FnG P w K mg base (k + 1) f (PySem.W.fnOf name qual params body scope dV kV doc pm an cdv ct) ps sp :=
  ⟨len, fun A outer s H args us vs Q E hr e0 b v h => LamX.run_ofS lk hcd sc hr.room e0 b v (len _ _ _ _ h) fun r => hb A outer s H vs Q E ⟨r, hr.gd⟩ h⟩

/-- a def's promise by a function of values and store -/
abbrev FD := List D → S → R D
def spD (T : Tab) (n : Nat) (F : FD) : Sp := fun vs H Q E => vs.length = n ∧ ∃ ρ m ds, StOk T ρ m H ∧ Iss T ρ H ds vs ∧ PoD T ρ H (F ds m) Q E

/-! ### statements -/
inductive O where
  | nx (μ : Env') (m : S)
  | ret (d : D) (m : S)
  | bk (μ : Env') (m : S)
  | ct (μ : Env') (m : S)
  | err (c : Nat) (fs : List D) (μ : Env') (m : S)
  | bad
abbrev ST := Env' → S → O
def PoS (T : Tab) (ρ : List Addr) (H : Hp) (o : O) (Dn : Ends) (W : WX) : Prop :=
  match o with
  | .nx μ m => ∀ (ρ' : List Addr) (H' : Hp) (σ' : L2.St), Le ρ H ρ' H' → StOk T ρ' m H' → EnvOk T ρ' H' μ σ' → Dn.nx σ' H'
  | .bk μ m => ∀ (ρ' : List Addr) (H' : Hp) (σ' : L2.St), Le ρ H ρ' H' → StOk T ρ' m H' → EnvOk T ρ' H' μ σ' → Dn.bk σ' H'
  | .ct μ m => ∀ (ρ' : List Addr) (H' : Hp) (σ' : L2.St), Le ρ H ρ' H' → StOk T ρ' m H' → EnvOk T ρ' H' μ σ' → Dn.ct σ' H'
  | .ret d m => ∀ (ρ' : List Addr) (H' : Hp) (v : V), Le ρ H ρ' H' → StOk T ρ' m H' → Is T ρ' H' d v → Dn.rt v H'
  | .err c fs μ m => ∀ (ρ' : List Addr) (H' : Hp) (σ' : L2.St) (cls : Value) (d : Option Addr), Le ρ H ρ' H' → StOk T ρ' m H' → EnvOk T ρ' H' μ σ' → ExcIs T ρ' H' c fs cls d → W cls d σ' H'
  | .bad => False
theorem PoS.le {T : Tab} {ρ ρ' : List Addr} {H H' : Hp} {o : O} {Dn : Ends} {W : WX} (h : PoS T ρ H o Dn W) (l : Le ρ H ρ' H') : PoS T ρ' H' o Dn W := by
  cases o with
  | nx μ m => exact fun ρ2 H2 σ' l2 => h ρ2 H2 σ' (l.trans l2)
  | bk μ m => exact fun ρ2 H2 σ' l2 => h ρ2 H2 σ' (l.trans l2)
  | ct μ m => exact fun ρ2 H2 σ' l2 => h ρ2 H2 σ' (l.trans l2)
  | ret d m => exact fun ρ2 H2 v l2 => h ρ2 H2 v (l.trans l2)
  | err c fs μ m => exact fun ρ2 H2 σ' cls d l2 => h ρ2 H2 σ' cls d (l.trans l2)
  | bad => exact h
def TDS (T : Tab) (W : WX) (f : ST) : TS := fun Dn σ H => ∃ ρ m μ, StOk T ρ m H ∧ EnvOk T ρ H μ σ ∧ PoS T ρ H (f μ m) Dn W
def nextS : ST := fun μ m => .nx μ m
def seqS (f g : ST) : ST := fun μ m => match f μ m with
  | .nx μ1 m1 => g μ1 m1
  | o => o
/-- an expression's value in a statement -/
def liftS (f : E1) (g : D → ST) : ST := fun μ m => match f μ m with
  | .ok d m1 => g d μ m1
  | .err c fs m1 => .err c fs μ m1
  | .bad => .bad
section
variable {X : Cx} {T : Tab} {W : WX} {pos : Pos} {ρ : List Addr} {m : S} {μ : Env'} {σ : L2.St} {H : Hp} {Dn : Ends}
/-- an expression's reading within a statement's -/
theorem TD.lift {f : E1} {g : D → ST} (st : StOk T ρ m H) (ev : EnvOk T ρ H μ σ) (h : PoS T ρ H (liftS f g μ m) Dn W) :
    TD T W f σ H fun v H1 => ∃ ρ1 m1 d, Le ρ H ρ1 H1 ∧ StOk T ρ1 m1 H1 ∧ EnvOk T ρ1 H1 μ σ ∧ Is T ρ1 H1 d v ∧ PoS T ρ1 H1 (g d μ m1) Dn W := by
  refine ⟨ρ, m, μ, st, ev, ?_⟩
  unfold liftS at h
  cases e : f μ m with
  | ok d m1 =>
    rw [e] at h
    exact fun ρ1 H1 v l s r => ⟨ρ1, m1, d, l, s, ev.le l, r, h.le l⟩
  | err c fs m1 =>
    rw [e] at h
    exact fun ρ1 H1 cls d l s r => h ρ1 H1 σ cls d l s (ev.le l) r
  | bad =>
    rw [e] at h
    exact h
theorem sd_nil : PSs X [] (TDS T W nextS) := ⟨fun pins s σ H Dn I h => by
  obtain ⟨ρ, m, μ, st, ev, h⟩ := h
  exact pss_nil.run pins s σ H Dn I (h ρ H σ (.refl _ _) st ev)⟩
theorem sd_cons {a : Stmt} {r : List Stmt} {f g : ST} (ha : PS X a (TDS T W f)) (hr : PSs X r (TDS T W g)) : PSs X (a :: r) (TDS T W (seqS f g)) := ⟨fun pins s σ H Dn I h => by
  refine (pss_cons ha hr).run pins s σ H Dn I ?_
  obtain ⟨ρ, m, μ, st, ev, h⟩ := h
  refine ⟨ρ, m, μ, st, ev, ?_⟩
  unfold seqS at h
  cases e : f μ m with
  | nx μ1 m1 =>
    rw [e] at h
    exact fun ρ1 H1 σ1 l s ev1 => ⟨ρ1, m1, μ1, s, ev1, PoS.le h l⟩
  | bk μ1 m1 => rw [e] at h; exact h
  | ct μ1 m1 => rw [e] at h; exact h
  | ret d m1 => rw [e] at h; exact h
  | err c fs μ1 m1 => rw [e] at h; exact h
  | bad => rw [e] at h; exact h⟩
theorem sd_one {a : Stmt} {f : ST} (ha : PS X a (TDS T W f)) : PSs X [a] (TDS T W f) := pss_one ha
theorem sd_pass : PS X (.Pass pos) (TDS T W nextS) := ps_imp ps_pass fun Dn σ H ⟨ρ, m, μ, st, ev, h⟩ => h ρ H σ (.refl _ _) st ev
def breakS : ST := fun μ m => .bk μ m
def contS : ST := fun μ m => .ct μ m
theorem sd_break : PS X (.Break pos) (TDS T W breakS) := ps_imp ps_break fun Dn σ H ⟨ρ, m, μ, st, ev, h⟩ => h ρ H σ (.refl _ _) st ev
theorem sd_cont : PS X (.Continue pos) (TDS T W contS) := ps_imp ps_continue fun Dn σ H ⟨ρ, m, μ, st, ev, h⟩ => h ρ H σ (.refl _ _) st ev
def retS (f : E1) : ST := liftS f fun d _ m => .ret d m
theorem sd_ret {e : Expr} {f : E1} (he : PE X e (TD T W f)) : PS X (.Return (some e) pos) (TDS T W (retS f)) := ps_imp (ps_ret he) fun Dn σ H ⟨ρ, m, μ, st, ev, h⟩ => by
  obtain ⟨ρ0, m0, μ0, s0, e0, h0⟩ := TD.lift st ev h
  exact ⟨ρ0, m0, μ0, s0, e0, h0.mono (fun v H1 ⟨ρ1, m1, d, l, s, ev1, r, h1⟩ => h1 ρ1 H1 v (.refl _ _) s r) fun _ _ _ z => z⟩
def retN : ST := fun _ m => .ret .non m
theorem sd_retN : PS X (.Return none pos) (TDS T W retN) := ps_imp ps_retN fun Dn σ H ⟨ρ, m, μ, st, ev, h⟩ => h ρ H .non (.refl _ _) st .non
def exprS (f : E1) : ST := liftS f fun _ μ m => .nx μ m
theorem sd_expr {e : Expr} {f : E1} (he : PE X e (TD T W f)) (hs : swapsWith e none pos.line X.env = pure false := by rfl) : PS X (.Expr e pos) (TDS T W (exprS f)) := ps_imp (ps_expr he hs) fun Dn σ H ⟨ρ, m, μ, st, ev, h⟩ => by
  obtain ⟨ρ0, m0, μ0, s0, e0, h0⟩ := TD.lift st ev h
  exact ⟨ρ0, m0, μ0, s0, e0, h0.mono (fun v H1 ⟨ρ1, m1, d, l, s, ev1, r, h1⟩ => h1 ρ1 H1 σ (.refl _ _) s ev1) fun _ _ _ z => z⟩
def setS (i : Nat) (f : E1) : ST := liftS f fun d μ m => .nx (μ.set i (some d)) m
theorem sd_set {i : Nat} {x : Str} {e : Expr} {f : E1} {pos' : Pos} (hN : X.N.Nodup) (hi : X.N[i]? = some x) (hx : Loc X.env.scope x) (he : PE X e (TD T W f)) (hs : swapsWith e (some (.Name x pos')) pos.line X.env = pure false := by rfl)
    (hf : X.fn x = true ∨ X.env.scope.names.lookup x = some .local := by first | exact .inl rfl | exact .inr rfl | assumption) : PS X (.Assign [.Name x pos'] e pos) (TDS T W (setS i f)) :=
  ps_imp (ps_set hN hi hx he hs hf) fun Dn σ H ⟨ρ, m, μ, st, ev, h⟩ => by
    obtain ⟨ρ0, m0, μ0, s0, e0, h0⟩ := TD.lift st ev h
    exact ⟨ρ0, m0, μ0, s0, e0, h0.mono (fun v H1 ⟨ρ1, m1, d, l, s, ev1, r, h1⟩ => h1 ρ1 H1 _ (.refl _ _) s (ev1.set r i)) fun _ _ _ z => z⟩

/-! ### tests -/
abbrev EB := Env' → S → R Bool
def TB (T : Tab) (W : WX) (f : EB) : TT := fun σ H Q => ∃ ρ m μ, StOk T ρ m H ∧ EnvOk T ρ H μ σ ∧ Po (α := Bool) (β := Bool) T (fun _ _ a b => a = b) ρ H (f μ m) Q fun c d H' => W c d σ H'
def ifS (c : EB) (f g : ST) : ST := fun μ m => match c μ m with
  | .ok true m1 => f μ m1
  | .ok false m1 => g μ m1
  | .err c fs m1 => .err c fs μ m1
  | .bad => .bad
theorem sd_if {c : Expr} {a b : List Stmt} {fc : EB} {f g : ST} (hc : PT X c (TB T W fc)) (ha : PSs X a (TDS T W f)) (hb : PSs X b (TDS T W g)) : PS X (.If c a b pos) (TDS T W (ifS fc f g)) :=
  ps_imp (ps_if hc ha hb) fun Dn σ H ⟨ρ, m, μ, st, ev, h⟩ => by
    refine ⟨ρ, m, μ, st, ev, ?_⟩
    unfold ifS at h
    cases e : fc μ m with
    | ok b m1 =>
      rw [e] at h
      intro ρ1 H1 b' l s r
      subst r
      cases b with
      | true => exact ⟨ρ1, m1, μ, s, ev.le l, PoS.le h l⟩
      | false => exact ⟨ρ1, m1, μ, s, ev.le l, PoS.le h l⟩
    | err c fs m1 =>
      rw [e] at h
      exact fun ρ1 H1 cls d l s r => h ρ1 H1 σ cls d l s (ev.le l) r
    | bad => rw [e] at h; exact h
/-- a value that is a truth value, as a test -/
def isB (f : E1) : EB := fun μ m => (f μ m).bind fun d m1 => match d with
  | .bl b => .ok b m1
  | _ => .bad
theorem td_val {e : Expr} {f : E1} (he : PE X e (TD T W f)) (hw : ∀ whole, isTrue e X.env whole = (do let v ← whole; standAt e.pos; holding [v] (truthy v)) := by intro _; rfl) : PT X e (TB T W (isB f)) :=
  pt_imp (pt_val he hw) fun σ H Q ⟨ρ, m, μ, st, ev, h⟩ => by
    obtain ⟨ρ0, m0, μ0, s0, e0, h0⟩ := TD.bind (g := fun d m1 => match d with | .bl b => R.ok b m1 | _ => .bad) st ev h
    refine ⟨ρ0, m0, μ0, s0, e0, h0.mono (fun v H1 ⟨ρ1, m1, d, l, s, ev1, r, h1⟩ => ?_) fun _ _ _ z => z⟩
    cases r with
    | bl b => exact ⟨b, rfl, h1 ρ1 H1 b (.refl _ _) s rfl⟩
    | _ => exact h1.elim
/-- a comparison as a test -/
theorem td_cmp {a b : Expr} {op : CmpOp} {r : R2} {g : OpF} {f1 f2 : E1} (hg : OpD r g) (ho : OpR X (compareOp op) r) (hm : behindInMarks op b = false) (ha : PE X a (TD T W f1)) (hb : PE X b (TD T W f2)) : PT X (.Compare a [op] [b] pos) (TB T W (isB (bin g f1 f2))) :=
  pt_imp (pt_cmpR ho ha hb hm) fun σ H Q ⟨ρ, m, μ, st, ev, h⟩ => by
    unfold isB bin at h
    have ass : ∀ (r : R D) (k : D → S → R D) (k2 : D → S → R Bool), (r.bind k).bind k2 = r.bind fun d m => (k d m).bind k2 := fun r k k2 => by cases r <;> rfl
    rw [ass] at h
    obtain ⟨ρ0, m0, μ0, s0, e0, h0⟩ := TD.bind st ev h
    refine ⟨ρ0, m0, μ0, s0, e0, h0.mono (fun v H1 ⟨ρ1, m1, d, l1, st1, ev1, r1, h1⟩ => ?_) fun _ _ _ z => z⟩
    rw [ass] at h1
    obtain ⟨ρ0, m0, μ0, s0, e0, h0⟩ := TD.bind st1 ev1 h1
    refine ⟨ρ0, m0, μ0, s0, e0, h0.mono (fun w H2 ⟨ρ2, m2, d2, l2, st2, ev2, r2, h2⟩ => ?_) fun _ _ _ z => z⟩
    refine hg T ρ2 m2 H2 d d2 v w _ (fun c d H' => W c d σ H') st2 (r1.le l2) r2 ?_
    cases e : g d d2 m2 with
    | ok z m3 =>
      rw [e] at h2
      intro ρ3 H3 u l3 s3 r3
      cases r3 with
      | bl b => exact ⟨b, rfl, h2 ρ3 H3 b l3 s3 rfl⟩
      | _ => exact h2.elim
    | err c fs m3 => rw [e] at h2; exact h2
    | bad => rw [e] at h2; exact h2
def notB (f : EB) : EB := fun μ m => (f μ m).bind fun b m1 => .ok (!b) m1
theorem td_not {e : Expr} {f : EB} (h : PT X e (TB T W f)) : PT X (.UnaryOp .Not e pos) (TB T W (notB f)) := pt_imp (pt_not h) fun σ H Q ⟨ρ, m, μ, st, ev, h⟩ => by
  refine ⟨ρ, m, μ, st, ev, ?_⟩
  unfold notB at h
  cases e : f μ m with
  | ok b m1 =>
    rw [e] at h
    intro ρ1 H1 b' l s r
    subst r
    exact h ρ1 H1 (!b) l s rfl
  | err c fs m1 => rw [e] at h; exact h
  | bad => rw [e] at h; exact h
theorem pw_imp {e : Expr} {t t' : L2.TT} (h : PW X e t) (w : ∀ σ H Q, t' σ H Q → t σ H Q) : PW X e t' := ⟨fun wh pins s σ H Q I q => h.run wh pins s σ H Q I (w σ H Q q)⟩
def andB (f g : EB) : EB := fun μ m => (f μ m).bind fun b m1 => if b = true then g μ m1 else .ok false m1
def orB (f g : EB) : EB := fun μ m => (f μ m).bind fun b m1 => if b = true then .ok true m1 else g μ m1
theorem tw_and1 {a : Expr} {f : EB} (h : PT X a (TB T W f)) : PW X (.BoolOp .And [a] pos) (TB T W f) := pw_and1 h
theorem tw_or1 {a : Expr} {f : EB} (h : PT X a (TB T W f)) : PW X (.BoolOp .Or [a] pos) (TB T W f) := pw_or1 h
theorem tw_and {a b : Expr} {rest : List Expr} {f g : EB} (ha : PT X a (TB T W f)) (hb : PW X (.BoolOp .And (b :: rest) pos) (TB T W g)) : PW X (.BoolOp .And (a :: b :: rest) pos) (TB T W (andB f g)) := pw_imp (pw_and ha hb) fun σ H Q ⟨ρ, m, μ, st, ev, h⟩ => by
  refine ⟨ρ, m, μ, st, ev, ?_⟩
  unfold andB at h
  cases e : f μ m with
  | ok b m1 =>
    rw [e] at h
    intro ρ1 H1 b' l s r
    subst r
    cases b with
    | true => exact ⟨ρ1, m1, μ, s, ev.le l, Po.le h l⟩
    | false => exact h ρ1 H1 false l s rfl
  | err c fs m1 => rw [e] at h; exact h
  | bad => rw [e] at h; exact h
theorem tw_or {a b : Expr} {rest : List Expr} {f g : EB} (ha : PT X a (TB T W f)) (hb : PW X (.BoolOp .Or (b :: rest) pos) (TB T W g)) : PW X (.BoolOp .Or (a :: b :: rest) pos) (TB T W (orB f g)) := pw_imp (pw_or ha hb) fun σ H Q ⟨ρ, m, μ, st, ev, h⟩ => by
  refine ⟨ρ, m, μ, st, ev, ?_⟩
  unfold orB at h
  cases e : f μ m with
  | ok b m1 =>
    rw [e] at h
    intro ρ1 H1 b' l s r
    subst r
    cases b with
    | false => exact ⟨ρ1, m1, μ, s, ev.le l, Po.le h l⟩
    | true => exact h ρ1 H1 true l s rfl
  | err c fs m1 => rw [e] at h; exact h
  | bad => rw [e] at h; exact h
/-- a if t else b -/
def ifE (c : EB) (f g : E1) : E1 := fun μ m => (c μ m).bind fun b m1 => if b = true then f μ m1 else g μ m1
theorem pd_if {c a b : Expr} {fc : EB} {f g : E1} (hc : PT X c (TB T W fc)) (ha : PE X a (TD T W f)) (hb : PE X b (TD T W g)) : PE X (.IfExp c a b pos) (TD T W (ifE fc f g)) := pe_imp (pe_ifExp hc ha hb) fun σ H Q ⟨ρ, m, μ, st, ev, h⟩ => by
  refine ⟨ρ, m, μ, st, ev, ?_⟩
  unfold ifE at h
  cases e : fc μ m with
  | ok b m1 =>
    rw [e] at h
    intro ρ1 H1 b' l s r
    subst r
    cases b with
    | true => exact ⟨ρ1, m1, μ, s, ev.le l, Po.le h l⟩
    | false => exact ⟨ρ1, m1, μ, s, ev.le l, Po.le h l⟩
  | err c fs m1 => rw [e] at h; exact h
  | bad => rw [e] at h; exact h
/-- x and y, x or y, not x of truth values, as values -/
def andE (f g : E1) : E1 := fun μ m => (f μ m).bind fun d m1 => match d with
  | .bl true => g μ m1
  | .bl false => .ok (.bl false) m1
  | _ => .bad
def orE (f g : E1) : E1 := fun μ m => (f μ m).bind fun d m1 => match d with
  | .bl false => g μ m1
  | .bl true => .ok (.bl true) m1
  | _ => .bad
def notE (f : E1) : E1 := fun μ m => (f μ m).bind fun d m1 => match d with
  | .bl b => .ok (.bl (!b)) m1
  | _ => .bad
theorem pd_one {op} {a : Expr} {f : E1} (h : PE X a (TD T W f)) : PE X (.BoolOp op [a] pos) (TD T W f) := pe_one h
theorem pd_and {a b : Expr} {rest : List Expr} {f g : E1} (ha : PE X a (TD T W f)) (hb : PE X (.BoolOp .And (b :: rest) pos) (TD T W g)) : PE X (.BoolOp .And (a :: b :: rest) pos) (TD T W (andE f g)) := pe_imp (pe_and ha hb) fun σ H Q ⟨ρ, m, μ, st, ev, h⟩ => by
  refine ⟨ρ, m, μ, st, ev, ?_⟩
  unfold andE at h
  cases e : f μ m with
  | ok d m1 =>
    rw [e] at h
    intro ρ1 H1 v l s r
    cases r with
    | bl b => cases b with
      | true => exact ⟨true, rfl, ⟨ρ1, m1, μ, s, ev.le l, Po.le h l⟩⟩
      | false => exact ⟨false, rfl, h ρ1 H1 _ l s (.bl false)⟩
    | _ => exact h.elim
  | err c fs m1 => rw [e] at h; exact h
  | bad => rw [e] at h; exact h
theorem pd_or {a b : Expr} {rest : List Expr} {f g : E1} (ha : PE X a (TD T W f)) (hb : PE X (.BoolOp .Or (b :: rest) pos) (TD T W g)) : PE X (.BoolOp .Or (a :: b :: rest) pos) (TD T W (orE f g)) := pe_imp (pe_or ha hb) fun σ H Q ⟨ρ, m, μ, st, ev, h⟩ => by
  refine ⟨ρ, m, μ, st, ev, ?_⟩
  unfold orE at h
  cases e : f μ m with
  | ok d m1 =>
    rw [e] at h
    intro ρ1 H1 v l s r
    cases r with
    | bl b => cases b with
      | false => exact ⟨false, rfl, ⟨ρ1, m1, μ, s, ev.le l, Po.le h l⟩⟩
      | true => exact ⟨true, rfl, h ρ1 H1 _ l s (.bl true)⟩
    | _ => exact h.elim
  | err c fs m1 => rw [e] at h; exact h
  | bad => rw [e] at h; exact h
theorem pd_not {a : Expr} {f : E1} (ha : PE X a (TD T W f)) : PE X (.UnaryOp .Not a pos) (TD T W (notE f)) := pe_imp (pe_not ha) fun σ H Q ⟨ρ, m, μ, st, ev, h⟩ => by
  refine ⟨ρ, m, μ, st, ev, ?_⟩
  unfold notE at h
  cases e : f μ m with
  | ok d m1 =>
    rw [e] at h
    intro ρ1 H1 v l s r
    cases r with
    | bl b => exact ⟨b, rfl, h ρ1 H1 _ l s (.bl (!b))⟩
    | _ => exact h.elim
  | err c fs m1 => rw [e] at h; exact h
  | bad => rw [e] at h; exact h

/-! ### argument lists, displays -/
def nilL : EL := fun _ m => .ok [] m
def consL (f : E1) (g : EL) : EL := fun μ m => (f μ m).bind fun d m1 => (g μ m1).bind fun ds m2 => .ok (d :: ds) m2
theorem pl_nil : PA X [] (TL T W nilL) := pa_imp pa_nil fun σ H Q ⟨ρ, m, μ, st, ev, h⟩ => h ρ H [] (.refl _ _) st .nil
theorem pl_cons {e : Expr} {es : List Expr} {f : E1} {g : EL} (he : PE X e (TD T W f)) (hr : PA X es (TL T W g)) (hs : starEach (e :: es) X.env = (false, eval e X.env) :: starEach es X.env := by rfl) : PA X (e :: es) (TL T W (consL f g)) :=
  pa_imp (pa_cons he hr hs) fun σ H Q ⟨ρ, m, μ, st, ev, h⟩ => by
    obtain ⟨ρ0, m0, μ0, s0, e0, h0⟩ := TD.bind (g := fun d m1 => (g μ m1).bind fun ds m2 => .ok (d :: ds) m2) st ev h
    refine ⟨ρ0, m0, μ0, s0, e0, h0.mono (fun v H1 ⟨ρ1, m1, d, l1, st1, ev1, r1, h1⟩ => ?_) fun _ _ _ z => z⟩
    obtain ⟨ρ0, m0, μ0, s0, e0, h0⟩ := TL.bind (g := fun ds m2 => .ok (d :: ds) m2) st1 ev1 h1
    exact ⟨ρ0, m0, μ0, s0, e0, h0.mono (fun w H2 ⟨ρ2, m2, d2, l2, st2, ev2, r2, h2⟩ => h2 ρ2 H2 (v :: w) (.refl _ _) st2 (.cons (r1.le l2) r2)) fun _ _ _ z => z⟩
def tupE (f : EL) : E1 := fun μ m => (f μ m).bind fun ds m1 => if ds.length ≤ 1000 then .ok (.tup ds) m1 else .bad
def lstE (f : EL) : E1 := fun μ m => (f μ m).bind fun ds m1 => if ds.length ≤ 1000 then .ok (.lst ds) m1 else .bad
/-- a display whose list is to be changed -/
def newE (f : EL) : E1 := fun μ m => (f μ m).bind fun ds m1 => if ds.length ≤ 1000 then .ok (.ref m1.length) (m1 ++ [.lst ds]) else .bad
theorem small_line {n : Nat} (h : n ≤ 1000) : n ≤ sizeLine := Nat.le_trans h (by decide)
theorem pd_tup {es : List Expr} {f : EL} {x1} (h : PA X es (TL T W f)) : PE X (.Tuple es x1 pos) (TD T W (tupE f)) := pe_imp (pe_tup h) fun σ H Q ⟨ρ, m, μ, st, ev, h⟩ => by
  obtain ⟨ρ0, m0, μ0, s0, e0, h0⟩ := TL.bind (g := fun ds m1 => if ds.length ≤ 1000 then R.ok (D.tup ds) m1 else .bad) st ev h
  refine ⟨ρ0, m0, μ0, s0, e0, h0.mono (fun vs H1 ⟨ρ1, m1, ds, l1, st1, ev1, r1, h1⟩ => ?_) fun _ _ _ z => z⟩
  split at h1
  · rename_i hl
    refine ⟨small_line (by rw [← r1.len]; exact hl), fun p hp => h1 ρ1 (upd H1 p (.tup vs)) (.ref p) (.new hp) (st1.new hp) (.tup upd_same (st1.free hp) (r1.le (.new hp)))⟩
  · exact h1.elim
theorem pd_lst {es : List Expr} {f : EL} (h : PA X es (TL T W f)) : PE X (.List es pos) (TD T W (lstE f)) := pe_imp (pe_lst h) fun σ H Q ⟨ρ, m, μ, st, ev, h⟩ => by
  obtain ⟨ρ0, m0, μ0, s0, e0, h0⟩ := TL.bind (g := fun ds m1 => if ds.length ≤ 1000 then R.ok (D.lst ds) m1 else .bad) st ev h
  refine ⟨ρ0, m0, μ0, s0, e0, h0.mono (fun vs H1 ⟨ρ1, m1, ds, l1, st1, ev1, r1, h1⟩ => ?_) fun _ _ _ z => z⟩
  split at h1
  · rename_i hl
    refine ⟨small_line (by rw [← r1.len]; exact hl), fun p hp => h1 ρ1 (upd H1 p (.lst vs)) (.ref p) (.new hp) (st1.new hp) (.lst upd_same (st1.free hp) (r1.le (.new hp)))⟩
  · exact h1.elim
theorem pd_newL {es : List Expr} {f : EL} (h : PA X es (TL T W f)) : PE X (.List es pos) (TD T W (newE f)) := pe_imp (pe_lst h) fun σ H Q ⟨ρ, m, μ, st, ev, h⟩ => by
  obtain ⟨ρ0, m0, μ0, s0, e0, h0⟩ := TL.bind (g := fun ds m1 => if ds.length ≤ 1000 then R.ok (D.ref m1.length) (m1 ++ [Ob.lst ds]) else .bad) st ev h
  refine ⟨ρ0, m0, μ0, s0, e0, h0.mono (fun vs H1 ⟨ρ1, m1, ds, l1, st1, ev1, r1, h1⟩ => ?_) fun _ _ _ z => z⟩
  split at h1
  · rename_i hl
    refine ⟨small_line (by rw [← r1.len]; exact hl), fun p hp => h1 (ρ1 ++ [p]) (upd H1 p (.lst vs)) (.ref p) (.place hp) (st1.place hp ⟨vs, upd_same, r1.le (.place hp)⟩) (.ref ?_)⟩
    rw [← st1.len]
    simp
  · exact h1.elim
end
end DL
end

section
set_option Elab.async false
set_option maxRecDepth 100000
set_option maxHeartbeats 4000000
set_option linter.all false
/-! D3: operators, comparisons, isinstance, len, subscripts, slices, calls of defs. -/
namespace DL
open PySem PySem.Spec PyProof.Rows L2

/-! ### numbers, texts, lists, tuples -/
/-- the longest text or list of an operation here -/
def cap : Nat := 1000000
theorem cap_line {n : Nat} (h : n ≤ cap) : n ≤ sizeLine := Nat.le_trans h (by decide)
def isInt2 (x y : D) : Option (Int × Int) := match x, y with
  | .int i, .int j => some (i, j)
  | _, _ => none
section
variable {T : Tab} {ρ : List Addr} {m : S} {H : Hp}
theorem Is.int_inv {i : Int} {v : V} (h : Is T ρ H (.int i) v) : v = .int i := by cases h; rfl
theorem Is.str_inv {x : Str} {v : V} (h : Is T ρ H (.str x) v) : v = .str x := by cases h; rfl
theorem Is.bl_inv {b : Bool} {v : V} (h : Is T ρ H (.bl b) v) : v = .bl b := by cases h; rfl
theorem Is.non_inv {v : V} (h : Is T ρ H .non v) : v = .non := by cases h; rfl
theorem Is.con_inv {u v : V} (h : Is T ρ H (.con u) v) : v = u := by cases h; rfl
theorem Is.tup_inv {ds : List D} {v : V} (h : Is T ρ H (.tup ds) v) : ∃ a xs, v = .ref a ∧ H a = some (.tup xs) ∧ a ∉ ρ ∧ Iss T ρ H ds xs := by cases h with | tup a b c => exact ⟨_, _, rfl, a, b, c⟩
/-- a list by its items, where it lies -/
def elems (m : S) : D → Option (List D)
  | .lst ds => some ds
  | .scr ds => some ds
  | .ref n => match m[n]? with
    | some (.lst ds) => some ds
    | _ => none
  | _ => none
theorem elems_is (st : StOk T ρ m H) {d : D} {v : V} {ds : List D} (h : Is T ρ H d v) (e : elems m d = some ds) : ∃ a xs, v = .ref a ∧ Rd H a (.lst xs) ∧ Iss T ρ H ds xs := by
  cases h with
  | lst a b c => cases e; exact ⟨_, _, rfl, .inl a, c⟩
  | scr a b c => cases e; exact ⟨_, _, rfl, .inr ⟨_, a⟩, c⟩
  | @ref n a hn =>
    simp only [elems] at e
    cases q : m[n]? with
    | none => rw [q] at e; cases e
    | some ob =>
      rw [q] at e
      cases ob with
      | lst ds' =>
        cases e
        obtain ⟨a', h1, xs, h2, h3⟩ := st.at q
        rw [hn] at h1; cases h1
        exact ⟨a, xs, rfl, .inl h2, h3⟩
      | dic _ _ => cases e
      | ins _ _ => cases e
  | _ => cases e
/-- a list's or a tuple's items -/
def items (m : S) : D → Option (List D)
  | .tup ds => some ds
  | d => elems m d
theorem items_is (st : StOk T ρ m H) {d : D} {v : V} {ds : List D} (h : Is T ρ H d v) (e : items m d = some ds) : ∃ a xs, v = .ref a ∧ (Rd H a (.lst xs) ∨ Rd H a (.tup xs)) ∧ Iss T ρ H ds xs := by
  cases h with
  | tup a b c => cases e; exact ⟨_, _, rfl, .inr (.inl a), c⟩
  | lst a b c => cases e; exact ⟨_, _, rfl, .inl (.inl a), c⟩
  | scr a b c => cases e; exact ⟨_, _, rfl, .inl (.inr ⟨_, a⟩), c⟩
  | ref hn =>
    obtain ⟨a, xs, h1, h2, h3⟩ := elems_is st (.ref hn) e
    exact ⟨a, xs, h1, .inl h2, h3⟩
  | _ => cases e
end
section
variable {X : Cx}
/-- list + list, wherever they are -/
theorem op_catR : OpR X (binaryOp .Add) (fun x y H Q => ∃ l b xs zs, x = .ref l ∧ y = .ref b ∧ Rd H l (.lst xs) ∧ Rd H b (.lst zs) ∧ xs.length + zs.length ≤ sizeLine ∧ ∀ p, H p = none → Q (.ref p) (upd H p (.lst (xs ++ zs)))) := by
  intro pins s σ H x y v u Q I rx ry h
  obtain ⟨l, b, xs, zs, rfl, rfl, h1, h2, hz, q⟩ := h
  cases rx
  cases ry
  obtain ⟨_, is1, n1, r1, e1⟩ := h1.ok I.hok
  obtain ⟨_, is2, n2, r2, e2⟩ := h2.ok I.hok
  refine PySem.P.add_list e1 e2 ?_ (by rw [List.size_toArray, List.size_toArray, ← r1.length, ← r2.length]; exact hz)
  rw [show is1.toArray ++ is2.toArray = (is1 ++ is2).toArray by simp]
  exact ⟨.ref _, _, I.lnew (t' := s.toks) (r1.append r2) (by rw [List.length_append]; exact hz), rfl, q _ I.fresh⟩
end
def addF : OpF := fun x y m => match x, y with
  | .int i, .int j => .ok (.int (i + j)) m
  | .str a, .str b => if a.length + b.length ≤ cap then .ok (.str (a ++ b)) m else .bad
  | .tup a, .tup b => if a.length + b.length ≤ cap then .ok (.tup (a ++ b)) m else .bad
  | x, y => match elems m x, elems m y with
    | some a, some b => if a.length + b.length ≤ cap then .ok (.lst (a ++ b)) m else .bad
    | _, _ => .bad
abbrev rAddF (K : PySem.W.Frag) : R2 := fun x y H Q => (((∃ i j, x = .int i ∧ y = .int j ∧ Q (.int (i + j)) H) ∨ (∃ i j, x = .str i ∧ y = .str j ∧ i.length + j.length ≤ sizeLine ∧ Q (.str (i ++ j)) H)) ∨ rCatA K x y H Q) ∨
  (∃ l b xs zs, x = .ref l ∧ y = .ref b ∧ Rd H l (.lst xs) ∧ Rd H b (.lst zs) ∧ xs.length + zs.length ≤ sizeLine ∧ ∀ p, H p = none → Q (.ref p) (upd H p (.lst (xs ++ zs))))
theorem or_add {X : Cx} : OpR X (binaryOp .Add) (rAddF X.K) := OpR.or (OpR.or (OpR.or op_add op_add_str) op_catA) op_catR
theorem lst_new {T : Tab} {ρ : List Addr} {m : S} {H : Hp} {Q : VK} {E : XK} {ds : List D} {xs : List V} (st : StOk T ρ m H) (r : Iss T ρ H ds xs) (h : PoD T ρ H (.ok (.lst ds) m) Q E) : ∀ p, H p = none → Q (.ref p) (upd H p (.lst xs)) := fun p hp =>
  h ρ _ (.ref p) (.new hp) (st.new hp) (.lst upd_same (st.free hp) (r.le (.new hp)))
theorem tup_new {T : Tab} {ρ : List Addr} {m : S} {H : Hp} {Q : VK} {E : XK} {ds : List D} {xs : List V} (st : StOk T ρ m H) (r : Iss T ρ H ds xs) (h : PoD T ρ H (.ok (.tup ds) m) Q E) : ∀ p, H p = none → Q (.ref p) (upd H p (.tup xs)) := fun p hp =>
  h ρ _ (.ref p) (.new hp) (st.new hp) (.tup upd_same (st.free hp) (r.le (.new hp)))
theorem od_add {K : PySem.W.Frag} : OpD (rAddF K) addF := by
  intro T ρ m H x y v w Q E st rx ry h
  have lists : ∀ a b, elems m x = some a → elems m y = some b → PoD T ρ H (if a.length + b.length ≤ cap then .ok (.lst (a ++ b)) m else .bad) Q E → rAddF K v w H Q := fun a b ea eb h => by
    obtain ⟨a1, xs, rfl, h1, r1⟩ := elems_is st rx ea
    obtain ⟨a2, ys, rfl, h2, r2⟩ := elems_is st ry eb
    split at h
    · rename_i hl
      exact .inr ⟨a1, a2, xs, ys, rfl, rfl, h1, h2, by rw [← r1.len, ← r2.len]; exact cap_line hl, lst_new st (r1.app r2) h⟩
    · exact h.elim
  unfold addF at h
  split at h
  · cases rx; cases ry
    exact .inl (.inl (.inl ⟨_, _, rfl, rfl, h ρ H _ (.refl _ _) st (.int _)⟩))
  · cases rx; cases ry
    split at h
    · rename_i hl
      exact .inl (.inl (.inr ⟨_, _, rfl, rfl, cap_line hl, h ρ H _ (.refl _ _) st (.str _)⟩))
    · exact h.elim
  · rename_i a b
    obtain ⟨a1, xs, rfl, h1, n1, r1⟩ := rx.tup_inv
    obtain ⟨a2, ys, rfl, h2, n2, r2⟩ := ry.tup_inv
    split at h
    · rename_i hl
      refine .inl (.inr ⟨a1, a2, xs, ys, rfl, rfl, .of h1, .of h2, by rw [← r1.len, ← r2.len]; exact cap_line hl, fun e => ?_, fun _ e => ?_, fun _ _ => tup_new st (r1.app r2) h⟩)
      · subst e
        cases r1
        exact h ρ H _ (.refl _ _) st (.tup h2 n2 r2)
      · subst e
        cases r2
        rw [List.append_nil] at h
        exact h ρ H _ (.refl _ _) st (.tup h1 n1 r1)
    · exact h.elim
  · split at h
    · rename_i ea eb
      exact lists _ _ ea eb h
    · exact h.elim
/-- operators on ints -/
def intF (c : Int → Int → Bool) (g : Int → Int → D) : OpF := fun x y m => match x, y with
  | .int i, .int j => if c i j = true then .ok (g i j) m else .bad
  | _, _ => .bad
theorem od_int {C : Int → Int → Prop} {g : Int → Int → V} {c : Int → Int → Bool} {gD : Int → Int → D} (hc : ∀ i j, c i j = true → C i j) (hg : ∀ T ρ H i j, Is T ρ H (gD i j) (g i j)) : OpD (rI C g) (intF c gD) := by
  intro T ρ m H x y v w Q E st rx ry h
  unfold intF at h
  split at h
  · cases rx; cases ry
    split at h
    · rename_i hl
      exact ⟨_, _, rfl, rfl, hc _ _ hl, h ρ H _ (.refl _ _) st (hg _ _ _ _ _)⟩
    · exact h.elim
  · exact h.elim
theorem od_int0 {g : Int → Int → V} {gD : Int → Int → D} (hg : ∀ T ρ H i j, Is T ρ H (gD i j) (g i j)) : OpD (rI0 g) (intF (fun _ _ => true) gD) := by
  intro T ρ m H x y v w Q E st rx ry h
  unfold intF at h
  split at h
  · cases rx; cases ry
    exact ⟨_, _, rfl, rfl, h ρ H _ (.refl _ _) st (hg _ _ _ _ _)⟩
  · exact h.elim
def subF : OpF := intF (fun _ _ => true) fun i j => .int (i - j)
theorem od_sub : OpD (rI0 fun i j => .int (i - j)) subF := od_int0 fun _ _ _ _ _ => .int _
def modF : OpF := intF (fun _ j => decide (0 < j)) fun i j => .int (i % j)
theorem od_mod : OpD (rI (fun _ j => 0 < j) fun i j => .int (i % j)) modF := od_int (fun _ _ h => of_decide_eq_true h) fun _ _ _ _ _ => .int _
def ltF : OpF := intF (fun _ _ => true) fun i j => .bl (decide (i < j))
def leF : OpF := intF (fun _ _ => true) fun i j => .bl (decide (i ≤ j))
def gtF : OpF := intF (fun _ _ => true) fun i j => .bl (decide (j < i))
def geF : OpF := intF (fun _ _ => true) fun i j => .bl (decide (j ≤ i))
theorem od_lt : OpD (rI0 fun i j => .bl (decide (i < j))) ltF := od_int0 fun _ _ _ _ _ => .bl _
theorem od_le : OpD (rI0 fun i j => .bl (decide (i ≤ j))) leF := od_int0 fun _ _ _ _ _ => .bl _
theorem od_gt : OpD (rI0 fun i j => .bl (decide (j < i))) gtF := od_int0 fun _ _ _ _ _ => .bl _
theorem od_ge : OpD (rI0 fun i j => .bl (decide (j ≤ i))) geF := od_int0 fun _ _ _ _ _ => .bl _
end DL
end

section
set_option Elab.async false
set_option maxRecDepth 100000
set_option maxHeartbeats 4000000
set_option linter.all false
/-! D4: products, powers, ==, is, repr, isinstance, len, subscripts, slices. -/
namespace DL
open PySem PySem.Spec PyProof.Rows L2

/-- a list's items, not the script's -/
def elemsT (m : S) : D → Option (List D)
  | .scr _ => none
  | d => elems m d
theorem elemsT_is {T : Tab} {ρ : List Addr} {m : S} {H : Hp} (st : StOk T ρ m H) {d : D} {v : V} {ds : List D} (h : Is T ρ H d v) (e : elemsT m d = some ds) : ∃ a xs, v = .ref a ∧ H a = some (.lst xs) ∧ Iss T ρ H ds xs := by
  cases h with
  | scr a b c => cases e
  | lst a b c => cases e; exact ⟨_, _, rfl, a, c⟩
  | @ref n a hn =>
    simp only [elemsT, elems] at e
    cases q : m[n]? with
    | none => rw [q] at e; cases e
    | some ob =>
      rw [q] at e
      cases ob with
      | lst ds' =>
        cases e
        obtain ⟨a', h1, xs, h2, h3⟩ := st.at q
        rw [hn] at h1; cases h1
        exact ⟨a, xs, rfl, h2, h3⟩
      | dic _ _ => cases e
      | ins _ _ => cases e
  | _ => cases e
def mulF : OpF := fun x y m => match x, y with
  | .int i, .int j => if (-(2 ^ 64) < i ∧ i < 2 ^ 64) ∨ (-(2 ^ 64) < j ∧ j < 2 ^ 64) then .ok (.int (i * j)) m else .bad
  | x, .int k => match elemsT m x with
    | some ds => if 0 ≤ k ∧ k ≤ 1000 ∧ ds.length ≤ 1000 then .ok (.lst (List.replicate k.toNat ds).flatten) m else .bad
    | none => .bad
  | _, _ => .bad
theorem Iss.rep {T : Tab} {ρ : List Addr} {H : Hp} {ds : List D} {vs : List V} (r : Iss T ρ H ds vs) : ∀ n : Nat, Iss T ρ H (List.replicate n ds).flatten (List.replicate n vs).flatten
  | 0 => .nil
  | n + 1 => by
    rw [List.replicate_succ, List.replicate_succ, List.flatten_cons, List.flatten_cons]
    exact r.app (Iss.rep r n)
theorem op_repR {X : Cx} : OpR X (binaryOp .Mult) (fun x y H Q => ∃ l k xs, x = .ref l ∧ y = .int k ∧ H l = some (.lst xs) ∧ (-(2 ^ 63) ≤ k ∧ k < 2 ^ 63 ∧ xs.length * k.toNat ≤ sizeLine) ∧ ∀ p, H p = none → Q (.ref p) (upd H p (.lst (List.replicate k.toNat xs).flatten))) := by
  intro pins s σ H x y v u Q I rx ry ⟨l, k, xs, e1, e2, e3, ⟨e4, e5, e6⟩, e7⟩
  exact op_rep pins s σ H x y v u Q I rx ry ⟨l, k, xs, e1, e2, e3, e4, e5, e6, e7⟩
abbrev rMulF : R2 := fun x y H Q => (∃ i j, x = .int i ∧ y = .int j ∧ CMul i j ∧ Q (.int (i * j)) H) ∨
  (∃ l k xs, x = .ref l ∧ y = .int k ∧ H l = some (.lst xs) ∧ (-(2 ^ 63) ≤ k ∧ k < 2 ^ 63 ∧ xs.length * k.toNat ≤ sizeLine) ∧ ∀ p, H p = none → Q (.ref p) (upd H p (.lst (List.replicate k.toNat xs).flatten)))
theorem od_mul : OpD rMulF mulF := by
  intro T ρ m H x y v w Q E st rx ry h
  unfold mulF at h
  split at h
  · cases rx; cases ry
    split at h
    · rename_i hl
      exact .inl ⟨_, _, rfl, rfl, hl, h ρ H _ (.refl _ _) st (.int _)⟩
    · exact h.elim
  · split at h
    · rename_i k _ _ ds e
      cases ry
      obtain ⟨a, xs, rfl, h1, r⟩ := elemsT_is st rx e
      split at h
      · rename_i hl
        refine .inr ⟨a, k, xs, rfl, rfl, h1, ⟨by omega, by omega, ?_⟩, lst_new st (r.rep k.toNat) h⟩
        have h2 : xs.length ≤ 1000 := by rw [← r.len]; exact hl.2.2
        have h3 : k.toNat ≤ 1000 := by omega
        exact Nat.le_trans (Nat.mul_le_mul h2 h3) (by decide)
      · exact h.elim
    · exact h.elim
  · exact h.elim
theorem or_mul {X : Cx} : OpR X (binaryOp .Mult) rMulF := OpR.or op_mul op_repR

/-- floor division and powers -/
def fdivF : OpF := intF (fun _ j => decide (0 < j ∧ j < 2 ^ 64)) fun i j => .int (i / j)
theorem od_fdiv : OpD (rI CDivW fun i j => .int (i / j)) fdivF := od_int (fun i j h => by
  have h := of_decide_eq_true h
  exact wide_div (b := 64) h.1 (by omega) (by decide) (by decide)) fun _ _ _ _ _ => .int _
def powF : OpF := intF (fun i j => decide (0 ≤ j ∧ j ≤ 1000 ∧ -(2 ^ 64) < i ∧ i < 2 ^ 64)) fun i j => .int (i ^ j.toNat)
theorem od_pow : OpD (rI CPow fun i j => .int (i ^ j.toNat)) powF := od_int (fun i j h => by
  have h := of_decide_eq_true h
  exact ⟨h.1, by omega, by omega⟩) fun _ _ _ _ _ => .int _
def negF (d : D) (m : S) : R D := match d with
  | .int i => .ok (.int (-i)) m
  | _ => .bad
def negE (f : E1) : E1 := fun μ m => (f μ m).bind negF
section
variable {X : Cx} {T : Tab} {W : WX} {pos : Pos}
theorem pd_neg {a : Expr} {f : E1} (ha : PE X a (TD T W f)) : PE X (.UnaryOp .USub a pos) (TD T W (negE f)) := pe_imp (pe_un un_neg ha) fun σ H Q ⟨ρ, m, μ, st, ev, h⟩ => by
  obtain ⟨ρ0, m0, μ0, s0, e0, h0⟩ := TD.bind (g := negF) st ev h
  refine ⟨ρ0, m0, μ0, s0, e0, h0.mono (fun v H1 ⟨ρ1, m1, d, l, s, ev1, r, h1⟩ => ?_) fun _ _ _ z => z⟩
  cases r with
  | int i => exact ⟨i, rfl, h1 ρ1 H1 _ (.refl _ _) s (.int _)⟩
  | _ => exact h1.elim
end

/-! ### data: ==, repr -/
mutual
/-- a value that is data -/
def py : D → Option PyData
  | .non => some .none
  | .bl b => some (.bool b)
  | .int i => some (.int i)
  | .str x => some (.str x)
  | .tup xs => (pys xs).map .tuple
  | .lst xs => (pys xs).map .list
  | .dic _ _ => none
  | .scr _ => none
  | .ref _ => none
  | .con _ => none
  | .exc _ _ => none
  | .obj _ _ => none
  | .lam _ _ => none
def pys : List D → Option (List PyData)
  | [] => some []
  | d :: ds => (py d).bind fun p => (pys ds).map fun ps => p :: ps
end
/-- .. a list of the store too -/
def pyM (m : S) : D → Option PyData
  | .ref n => match m[n]? with
    | some (.lst ds) => (pys ds).map .list
    | _ => none
  | d => py d
mutual
theorem Is.dp {K : PySem.W.Frag} {T : Tab} {ρ : List Addr} {H : Hp} : ∀ {d : D} {v : V} {p : PyData}, Is T ρ H d v → py d = some p → Dp K H v p
  | _, _, _, .non, e => by cases e; exact .non
  | _, _, _, .bl b, e => by cases e; exact .bl b
  | _, _, _, .int i, e => by cases e; exact .int i
  | _, _, _, .str x, e => by cases e; exact .str x
  | _, _, _, .tup (ds := ds) h _ r, e => by
    simp only [py] at e
    cases q : pys ds with
    | none => rw [q] at e; cases e
    | some ps => rw [q] at e; cases e; exact .tup (.of h) (Iss.dp r q)
  | _, _, _, .lst (ds := ds) h _ r, e => by
    simp only [py] at e
    cases q : pys ds with
    | none => rw [q] at e; cases e
    | some ps => rw [q] at e; cases e; exact .lst (.of h) (Iss.dp r q)
  | _, _, _, .dic .., e => by cases e
  | _, _, _, .scr .., e => by cases e
  | _, _, _, .ref .., e => by cases e
  | _, _, _, .con .., e => by cases e
  | _, _, _, .exc .., e => by cases e
  | _, _, _, .obj .., e => by cases e
  | _, _, _, .lam .., e => by cases e
theorem Iss.dp {K : PySem.W.Frag} {T : Tab} {ρ : List Addr} {H : Hp} : ∀ {ds : List D} {vs : List V} {ps : List PyData}, Iss T ρ H ds vs → pys ds = some ps → DpAll K H vs ps
  | _, _, _, .nil, e => by cases e; exact .nil
  | _, _, _, .cons (d := d) (ds := ds) a b, e => by
    simp only [pys] at e
    cases q : py d with
    | none => rw [q] at e; cases e
    | some p =>
      rw [q] at e
      cases q2 : pys ds with
      | none => simp [q2] at e
      | some ps =>
        simp [q2] at e
        subst e
        exact .cons (Is.dp a q) (Iss.dp b q2)
end
theorem Is.dpM {K : PySem.W.Frag} {T : Tab} {ρ : List Addr} {m : S} {H : Hp} (st : StOk T ρ m H) {d : D} {v : V} {p : PyData} (h : Is T ρ H d v) (e : pyM m d = some p) : Dp K H v p := by
  cases h with
  | @ref n a hn =>
    simp only [pyM] at e
    cases q : m[n]? with
    | none => rw [q] at e; cases e
    | some ob =>
      rw [q] at e
      cases ob with
      | lst ds =>
        simp only at e
        cases q2 : pys ds with
        | none => rw [q2] at e; cases e
        | some ps =>
          rw [q2] at e; cases e
          obtain ⟨a', h1, xs, h2, h3⟩ := st.at q
          rw [hn] at h1; cases h1
          exact .lst (.of h2) (Iss.dp h3 q2)
      | dic _ _ => cases e
      | ins _ _ => cases e
  | non => exact Is.dp (T := T) (ρ := ρ) .non e
  | bl b => exact Is.dp (T := T) (ρ := ρ) (.bl b) e
  | int b => exact Is.dp (T := T) (ρ := ρ) (.int b) e
  | str b => exact Is.dp (T := T) (ρ := ρ) (.str b) e
  | tup a b c => exact Is.dp (.tup a b c) e
  | lst a b c => exact Is.dp (.lst a b c) e
  | _ => cases e
def eqD0 (x y : D) (m : S) : R D := match pyM m x, pyM m y with
  | some p, some q => if SeqAt.shaped p = true ∧ SeqAt.shaped q = true then .ok (.bl (PyData.eqv p q)) m else .bad
  | _, _ => .bad
def eqF : OpF := fun x y m => match x, y with
  | .str a, .str b => .ok (.bl (a == b)) m
  | x, y => eqD0 x y m
def neF : OpF := fun x y m => match x, y with
  | .str a, .str b => .ok (.bl (!(a == b))) m
  | x, y => (eqD0 x y m).bind fun d m1 => match d with
    | .bl b => .ok (.bl (!b)) m1
    | _ => .bad
abbrev rEq2 (K : PySem.W.Frag) : R2 := fun x y H Q => rEq x y H Q ∨ rEqD K x y H Q
abbrev rNe2 (K : PySem.W.Frag) : R2 := fun x y H Q => rNe x y H Q ∨ rNeD K x y H Q
theorem od_eq {K : PySem.W.Frag} : OpD (rEq2 K) eqF := by
  intro T ρ m H x y v w Q E st rx ry h
  unfold eqF at h
  split at h
  · cases rx; cases ry
    refine .inl ⟨rfl, ?_⟩
    rw [dec_str]
    exact h ρ H _ (.refl _ _) st (.bl _)
  · unfold eqD0 at h
    split at h
    · rename_i p q e1 e2
      split at h
      · rename_i hs
        exact .inr ⟨p, q, rx.dpM st e1, ry.dpM st e2, hs.1, hs.2, h ρ H _ (.refl _ _) st (.bl _)⟩
      · exact h.elim
    · exact h.elim
theorem od_ne {K : PySem.W.Frag} : OpD (rNe2 K) neF := by
  intro T ρ m H x y v w Q E st rx ry h
  unfold neF at h
  split at h
  · cases rx; cases ry
    refine .inl ⟨rfl, ?_⟩
    rw [dec_str]
    exact h ρ H _ (.refl _ _) st (.bl _)
  · unfold eqD0 at h
    split at h
    · rename_i p q e1 e2
      split at h
      · rename_i hs
        exact .inr ⟨p, q, rx.dpM st e1, ry.dpM st e2, hs.1, hs.2, h ρ H _ (.refl _ _) st (.bl _)⟩
      · exact h.elim
    · exact h.elim
/-- is None -/
def isNon (d : D) : Option Bool := match d with
  | .non => some true
  | .con _ => none
  | _ => some false
def isF : OpF := fun x y m => match y, isNon x with
  | .non, some b => .ok (.bl b) m
  | _, _ => .bad
def isNotF : OpF := fun x y m => match y, isNon x with
  | .non, some b => .ok (.bl (!b)) m
  | _, _ => .bad
theorem isNon_is {T : Tab} {ρ : List Addr} {H : Hp} {d : D} {v : V} {b : Bool} (h : Is T ρ H d v) (e : isNon d = some b) : decide (v = V.non) = b := by
  cases h <;> cases e <;> simp
theorem od_is : OpD (fun x y H Q => y = .non ∧ Q (.bl (decide (x = .non))) H) isF := by
  intro T ρ m H x y v w Q E st rx ry h
  unfold isF at h
  split at h
  · rename_i b e
    exact ⟨ry.non_inv, h ρ H _ (.refl _ _) st (by rw [isNon_is rx e]; exact .bl b)⟩
  · exact h.elim
theorem od_isNot : OpD (fun x y H Q => y = .non ∧ Q (.bl (!decide (x = .non))) H) isNotF := by
  intro T ρ m H x y v w Q E st rx ry h
  unfold isNotF at h
  split at h
  · rename_i b e
    exact ⟨ry.non_inv, h ρ H _ (.refl _ _) st (by rw [isNon_is rx e]; exact .bl _)⟩
  · exact h.elim

/-! ### calls of built-in functions, by values -/
abbrev CF := List D → S → R D
def CallD (r : List V → Hp → VK → Prop) (g : CF) : Prop := ∀ (T : Tab) (ρ : List Addr) (m : S) (H : Hp) (ds : List D) (vs : List V) (Q : VK) (E : XK), StOk T ρ m H → Iss T ρ H ds vs → PoD T ρ H (g ds m) Q E → r vs H Q
def callE (g : CF) (f : EL) : E1 := fun μ m => (f μ m).bind g
section
variable {X : Cx} {T : Tab} {W : WX} {pos : Pos} {p : Pos}
theorem pd_callB {x : Str} {id : String} {r : List V → Hp → VK → Prop} {g : CF} {e : Expr} {es : List Expr} {f : EL} (hg : CallD r g) (hc : CallR X (.builtin id) r) (hgl : Gl X x) (hm : X.mg x = none) (hv : bootBuiltins x = some (.builtin id)) (ha : PA X (e :: es) (TL T W f))
    (hn : x ≠ "__name__" := by decide) (hdb : (x == ("__debug__" : Str)) = false := by decide) (he : starEach (e :: es) X.env = (false, eval e X.env) :: starEach es X.env := by rfl) (hpl : (backTo pos (starEach es X.env)).any (·.1) = false := by rfl) :
    PE X (.Call (.Name x p) (e :: es) [] pos) (TD T W (callE g f)) := pe_imp (pe_callB hc hgl hm hv ha hn hdb he hpl) fun σ H Q ⟨ρ, m, μ, st, ev, h⟩ => by
  obtain ⟨ρ0, m0, μ0, s0, e0, h0⟩ := TL.bind (g := g) st ev h
  exact ⟨ρ0, m0, μ0, s0, e0, h0.mono (fun v H1 ⟨ρ1, m1, d, l, s, ev1, r, h1⟩ => hg T ρ1 m1 H1 d v Q _ s r h1) fun _ _ _ z => z⟩
theorem pd_callT {x : Str} {id : String} {r : List V → Hp → VK → Prop} {g : CF} {e : Expr} {es : List Expr} {f : EL} (hg : CallD r g) (hc : CallR X (.type id) r) (hgl : Gl X x) (hm : X.mg x = none) (hv : bootBuiltins x = some (.type id)) (ha : PA X (e :: es) (TL T W f))
    (hn : x ≠ "__name__" := by decide) (hdb : (x == ("__debug__" : Str)) = false := by decide) (he : starEach (e :: es) X.env = (false, eval e X.env) :: starEach es X.env := by rfl) (hpl : (backTo pos (starEach es X.env)).any (·.1) = false := by rfl) :
    PE X (.Call (.Name x p) (e :: es) [] pos) (TD T W (callE g f)) := pe_imp (pe_callTy hc hgl hm hv ha hn hdb he hpl) fun σ H Q ⟨ρ, m, μ, st, ev, h⟩ => by
  obtain ⟨ρ0, m0, μ0, s0, e0, h0⟩ := TL.bind (g := g) st ev h
  exact ⟨ρ0, m0, μ0, s0, e0, h0.mono (fun v H1 ⟨ρ1, m1, d, l, s, ev1, r, h1⟩ => hg T ρ1 m1 H1 d v Q _ s r h1) fun _ _ _ z => z⟩
end
/-- the built-in type of a value -/
def tyOf (m : S) : D → Option String
  | .non => some "NoneType"
  | .bl _ => some "bool"
  | .int _ => some "int"
  | .str _ => some "str"
  | .tup _ => some "tuple"
  | .lst _ => some "list"
  | .scr _ => some "list"
  | .dic _ _ => some "dict"
  | .ref n => match m[n]? with
    | some (.lst _) => some "list"
    | some (.dic _ _) => some "dict"
    | _ => none
  | _ => none
theorem tyOf_is {K : PySem.W.Frag} {T : Tab} {ρ : List Addr} {m : S} {H : Hp} {d : D} {v : V} {n : String} (st : StOk T ρ m H) (h : Is T ρ H d v) (e : tyOf m d = some n) : TyX K H v (.type n) := by
  cases h with
  | non => cases e; exact .base .non
  | bl b => cases e; exact .base (.bl b)
  | int i => cases e; exact .base (.int i)
  | str x => cases e; exact .base (.str x)
  | tup h _ _ => cases e; exact .base (.tup h)
  | lst h _ _ => cases e; exact .base (.lst h)
  | scr h _ _ => cases e; exact .base (.frz h)
  | dic h _ _ _ => cases e; exact .base (.dK h)
  | @ref n a hn =>
    simp only [tyOf] at e
    cases q : m[n]? with
    | none => rw [q] at e; cases e
    | some ob =>
      rw [q] at e
      obtain ⟨a', h1, h2⟩ := st.at q
      rw [hn] at h1; cases h1
      cases ob with
      | lst ds => cases e; obtain ⟨xs, h2, _⟩ := h2; exact .base (.lst h2)
      | dic ks ds => cases e; obtain ⟨xs, h2, _⟩ := h2; exact .base (.dK h2)
      | ins c ds => cases e
  | _ => cases e
/-- a built-in type below another one, for data -/
def subTy (a b : String) : Bool := a == b || (a == "bool" && b == "int")
def tyNames : List String := ["NoneType", "bool", "int", "str", "tuple", "list", "dict"]
/-- isinstance(x, T) -/
def isiF : CF := fun ds m => match ds with
  | [d, .con (.ty b)] => match tyOf m d with
    | some a => if tyNames.contains a && tyNames.contains b then .ok (.bl (subTy a b)) m else .bad
    | none => .bad
  | _ => .bad
theorem kit_tab {K : PySem.W.Frag} : ∀ a ∈ tyNames, ∀ b ∈ tyNames, PySem.W.kitOne K (.type a) (.type b) = some (subTy a b) := by
  intro a ha b hb
  simp only [tyNames, List.mem_cons, List.not_mem_nil, or_false] at ha hb
  rcases ha with rfl | rfl | rfl | rfl | rfl | rfl | rfl <;> rcases hb with rfl | rfl | rfl | rfl | rfl | rfl | rfl <;> kernel_rfl
theorem cd_isi {K : PySem.W.Frag} : CallD (rIsi K) isiF := by
  intro T ρ m H ds vs Q E st r h
  unfold isiF at h
  split at h
  · rename_i d b
    cases r with
    | cons r1 r2 =>
      cases r2 with
      | cons r2 r3 =>
        cases r3
        cases r2
        split at h
        · rename_i a e
          split at h
          · rename_i hc
            simp only [Bool.and_eq_true, List.contains_iff_mem] at hc
            exact ⟨_, _, _, _, _, rfl, .ty b, tyOf_is st r1 e, kit_tab a hc.1 b hc.2, h ρ H _ (.refl _ _) st (.bl _)⟩
          · exact h.elim
        · exact h.elim
  · exact h.elim
end DL
end

section
set_option Elab.async false
set_option maxRecDepth 100000
set_option maxHeartbeats 4000000
set_option linter.all false
/-! D5: own exceptions, made and raised. -/
namespace DL
open PySem PySem.Spec PyProof.Rows L2

/-- h' is h with an exception of the class at C, at e, its only field f holding u -/
structure Made1 (h h' : Heap) (C : Addr) (f : Str) (u : Value) (e : Addr) : Prop where
  keep : ∀ b o, h.get? b = some o → h'.get? b = some o
  out : h.get? e = none
  exc : ∃ dx vs, h'.get? e = some { cls := .ref C, dict := some dx, data := .fields vs } ∧ vs[1]? = some .none ∧ h.get? dx = none ∧ dx ≠ e ∧ h'.Ns1 dx fun g => if g = f then some u else none
open PySem.W.X in
theorem Made1.of {h h' : Heap} {news : List (Addr × Obj)} (D : PySem.W.X.Mem h h' [] news) {i j : Nat} {e dx C : Addr} {f : Str} {u : Value} {vs : Array Value} {hs : Int} {t : Tok} {ep : Nat}
    (hi : news[i]? = some (e, { cls := .ref C, dict := some dx, data := .fields vs })) (hv : vs[1]? = some .none) (hj : news[j]? = some (dx, { cls := .type "dict", data := .dict #[⟨hs, .str f t, u⟩] ep })) (ij : Nat.blt j i = true) : Made1 h h' C f u e := by
  refine ⟨fun b o e => D.keep b o e (by simp [PySem.W.X.away]), (D.nw _ (List.mem_of_getElem? hi)).2, dx, vs, D.at i _ _ hi, hv, (D.nw _ (List.mem_of_getElem? hj)).2, D.ne j i _ _ _ _ hj hi ij, _, _, _, D.at j _ _ hj, rfl, ?_, ?_, fun g => ?_⟩
  · intro x hx
    simp at hx
    subst hx
    exact ⟨_, _, rfl⟩
  · simp [UniqKeys]
  · show findBy _ _ _ = _
    by_cases hg : g = f
    · subst hg
      simp [findBy, Value.isStr]
    · simp [findBy, Value.isStr, hg, Ne.symm hg]
/-- the room in which exceptions are made -/
def roomA (stk : List Env) : Around := { handled := none, depth := 980, frames := some stk, guards := some [], units := 9650 }
def MakeOk (prog : Program) (w : World) (base : Heap) (C : Addr) (f : Str) : Prop := ∀ (s : Shared) (stk : List Env) (u : Value), (∀ b o, base.get? b = some o → s.heap.get? b = some o) →
  wpAny (model prog w) { handled := none, depth := 980, frames := some stk, guards := some [], units := 9650 } (call (.ref C) [u]) (fun v s' => ∃ e h' tk, v = .ref e ∧ s' = { s with heap := h', toks := tk } ∧ Made1 s.heap h' C f u e) (fun _ _ => False) s
section
variable {X : Cx} {pins : List (Addr × Obj)} {σ : L2.St} {H : Hp} {s : Shared}
theorem obj_there {P : Program} {w : World} {h : Heap} {a : Addr} {o : HO} (x : ObjOk P w H h a o) : ∃ u, h.get? a = some u := by
  cases o with
  | lst xs => obtain ⟨_, _, _, _, e⟩ := x; exact ⟨_, e⟩
  | tup xs => obtain ⟨_, _, _, _, e, _⟩ := x; exact ⟨_, e⟩
  | dK kvs => obtain ⟨_, _, _, _, _, _, _, e, _⟩ := x; exact ⟨_, e⟩
  | dT kvs => obtain ⟨_, _, _, _, _, _, _, e, _⟩ := x; exact ⟨_, e⟩
  | set S n => obtain ⟨_, _, _, _, e, _⟩ := x; exact ⟨_, e⟩
  | ins C dx fs => obtain ⟨_, _, _, e, _⟩ := x; exact ⟨_, e⟩
  | own y => exact x
  | xd fs => obtain ⟨_, ⟨_, _, _, e, _⟩, _⟩ := x; exact ⟨_, e⟩
  | rng lo hi => obtain ⟨_, _, _, e⟩ := x; exact ⟨_, e⟩
  | frz ob u => obtain ⟨e, _⟩ := x; exact ⟨_, e⟩
  | tbl ps => exact ⟨_, (show h.get? a = some _ from x)⟩
  | met f y => exact ⟨_, (show h.get? a = some _ from x)⟩
  | ext φ => obtain ⟨_, e, _⟩ := x; exact e
theorem out_free {P : Program} {w : World} {h : Heap} (ok : HOk P w H h) {a : Addr} (e : h.get? a = none) : H a = none := by
  cases q : H a with
  | none => rfl
  | some o =>
    obtain ⟨u, z⟩ := obj_there (ok a o q)
    rw [e] at z; cases z
/-- the exception stands apart, its dict is tracked -/
theorem made_inv {h' : Heap} {tk : Tok} {C e : Addr} {f : Str} {u : Value} {v : V} (I : Inv X pins σ H s) (M : Made1 s.heap h' C f u e) (r : RelV v u) :
    ∃ (dx : Addr) (vs : Array Value) (G : Heap), H dx = none ∧ Inv X pins σ (upd H dx (.xd [(f, v)])) { s with heap := G, toks := tk } ∧ (∀ b o, G.get? b = some o → h'.get? b = some o) ∧ G.get? e = none ∧
      h'.get? e = some { cls := .ref C, dict := some dx, data := .fields vs } ∧ vs[1]? = some .none ∧ upd H dx (.xd [(f, v)]) e = none := by
  obtain ⟨k, out, dx, vs, he, hv, hd, ne, hns⟩ := M
  obtain ⟨G, g1, g2⟩ := restrict h' fun b => decide (b ≠ e)
  have gk : ∀ b, b ≠ e → G.get? b = h'.get? b := fun b hb => g1 b (decide_eq_true hb)
  have ge : G.get? e = none := g2 e (by simp)
  have hnd : H dx = none := out_free I.hok hd
  have hne : H e = none := out_free I.hok out
  have old : ∀ {b : Addr} {o : Obj}, s.heap.get? b = some o → b ≠ e := fun {b o} z q => by rw [q, out] at z; cases z
  have odx : ∀ {b : Addr} {o : Obj}, s.heap.get? b = some o → b ≠ dx := fun {b o} z q => by rw [q, hd] at z; cases z
  have kG : ∀ b o, s.heap.get? b = some o → G.get? b = some o := fun b o z => (gk b (old z)).trans (k b o z)
  have U : Un X.fs [] H (upd H dx (.xd [(f, v)])) s.heap G := {
    keep := fun b o z _ _ _ => kG b o z
    slot := fun b o z _ _ _ => ⟨o.slots, kG b o z⟩
    free := fun b o z n _ => by rw [upd_ne (odx z)]; exact n
    there := fun b o z _ => ⟨o, kG b o z⟩
    tups := fun b xs z => by rw [upd_ne (ne_of_none z hnd)]; exact z
    frzs := fun b o y z => by rw [upd_ne (ne_of_none z hnd)]; exact z
    tbls := fun b ps z => ⟨#[], by rw [upd_ne (ne_of_none z hnd), z]; simp⟩ }
  have hk : HOk X.prog X.w (upd H dx (.xd [(f, v)])) G := fun b o z => by
    by_cases hb : b = dx
    · subst hb
      rw [upd_same] at z; cases z
      refine ⟨_, hns.at fun o q => (gk b ne).trans q, fun g => ?_⟩
      by_cases hg : g = f
      · subst hg; simp [List.lookup]; exact r
      · have : (g == f) = false := by simpa using hg
        simp [List.lookup, this, hg]; trivial
    · rw [upd_ne hb] at z
      exact (I.hok b o z).stay (fun c y _ q => kG c y q) (fun c q => by rw [upd_ne (ne_of_none q hnd)]; exact q) fun c xs q => by rw [upd_ne (ne_of_none q hnd)]; exact q
  refine ⟨dx, vs, G, hnd, I.un (t' := tk) U hk, fun b o z => ?_, ge, he, hv, by rw [upd_ne (Ne.symm ne)]; exact hne⟩
  by_cases hb : b = e
  · rw [hb, ge] at z; cases z
  · exact (gk b hb).symm.trans z
end
/-- what a class of exceptions must have -/
structure ExC (K : PySem.W.Frag) (C : Addr) : Prop where
  kp : PySem.W.keepIn K (.ref C) = true
  ex : PySem.W.subIn K (.ref C) (.type "BaseException") = some true
  ty : PySem.W.typeIn K (.ref C) = some (.type "type")
section
variable {X : Cx} {T : Tab} {W : WX} {pos p : Pos}
/-- the context's room -/
theorem room_in {Γ : PySem.Ctx} {A : Around} {stk : List Env} (r : Rg 5 A) (hs : A.frames = some stk) (h : Γ.In A) : Γ.In { handled := none, depth := 980, frames := some stk, guards := some [], units := 9650 } := by
  obtain ⟨h1, h2, h3, h4, h5⟩ := h
  have d1 : A.depth + 3 * 5 + 5 < 1000 := r.room.dp
  have d2 : A.units + 16 * 5 + 200 < 9900 := r.room.un
  exact ⟨h1.trans r.room.hd, by show _ ≤ 980; omega, fun l e => h3 l (hs.trans e), fun g e => h4 g (r.gd.trans e), by show _ ≤ 9650; omega⟩
def excE (c : Nat) (f : E1) : Env' → S → R (Nat × List D) := fun μ m => (f μ m).bind fun d m1 => .ok (c, [d]) m1
/-- raise C(e) -/
def raiseS (c : Nat) (f : E1) : ST := liftS f fun d μ m => .err c [d] μ m
theorem sd_raise {C : Addr} {c : Nat} {fd x : Str} {e : Expr} {f : E1} {pos' : Pos} (mk : MakeOk X.prog X.w X.base C fd) (rg : Rg 5 X.A) (ex : ExC X.K C) (hc : T.cls c = C) (hf : T.flds c = [fd]) (hg : Gl X x) (hm : X.mg x = some (.ref C)) (ca : X.calm = true) (tk : Takes X W)
    (he : PE X e (TD T W f)) (hdb : (x == ("__debug__" : Str)) = false := by decide) (hst : starEach [e] X.env = [(false, eval e X.env)] := by rfl) :
    PS X (.Raise (some (.Call (.Name x p) [e] [] pos)) none pos') (TDS T W (raiseS c f)) := by
  have pmk : PMk X (.Call (.Name x p) [e] [] pos) (fun σ H Q => TD T W f σ H fun v H1 => ∀ dx, H1 dx = none → Q (.ref C) (some dx) (upd H1 dx (.xd [(fd, v)]))) := by
    intro pins s σ H Q I h
    refine wpAny_Call_Name_kw (ld_glob I hg hm ?_ hdb)
    refine PySem.W.callWith_K (h₀ := X.base) I.ok.mod.kin ex.kp (thn ((pa_cons he pa_nil hst).run pos pins s σ H (fun vs H1 => ∃ v, vs = [v] ∧ ∀ dx, H1 dx = none → Q (.ref C) (some dx) (upd H1 dx (.xd [(fd, v)]))) I ?_) fun us s1 ⟨vs, H1, I1, r, v, e1, q⟩ => ⟨I1.kIn, ?_⟩) hst rfl
    · obtain ⟨ρ, m, μ, st, ev, h⟩ := h
      exact ⟨ρ, m, μ, st, ev, h.mono (fun v H1 q => ⟨v, rfl, q⟩) fun _ _ _ z => z⟩
    · subst e1
      cases r with
      | @cons _ u _ us ru ru' =>
        cases ru'
        have go := mk s1 X.stack u I1.bk
        refine fun Γ p hΓ => wpAny_mono (Q' := MkP X pins σ Q) (E' := X.xe) go (fun w s2 hw => ?_) (fun _ _ z => z.elim) Γ p (room_in rg I1.ok.frames hΓ)
        obtain ⟨a, h', tk', rfl, rfl, M⟩ := hw
        obtain ⟨dx, vs, G, n1, J, k, ge, hae, hv, na⟩ := made_inv (tk := tk') I1 M ru
        exact ⟨a, _, vs, _, _, .ref C, some dx, rfl, J, k, ge, hae, ⟨rfl, rfl⟩, rfl, hv, na, rfl, I1.bare, raises_own ex.ex ex.ty, q dx n1⟩
  refine ps_imp (ps_raise ca tk pmk) fun Dn σ H ⟨ρ, m, μ, st, ev, h⟩ => ?_
  obtain ⟨ρ0, m0, μ0, s0, e0, h0⟩ := TD.lift st ev h
  refine ⟨ρ0, m0, μ0, s0, e0, h0.mono (fun v H1 ⟨ρ1, m1, d, l, s, ev1, r, h1⟩ dx hdx => ?_) fun _ _ _ z => z⟩
  have nd := s.free hdx
  exact h1 ρ1 _ σ _ _ (.new hdx) (s.new hdx) (ev1.le (.new hdx)) ⟨by rw [hc], [v], .cons (r.le (.new hdx)) .nil, by rw [hf]; rfl, .inr ⟨dx, rfl, nd, by rw [hf, upd_same]; rfl⟩⟩

/-! ### calls of defs -/
variable {k : Nat} {f : Addr} {fd : FuncData} {ps : List Str} {F : FD}
theorem run_g {pins : List (Addr × Obj)} {σ : L2.St} {H : Hp} {s : Shared} {Q : VK} {us ws : List Value} {ks : List Str} {vs : List V} {sp : Sp} {zs : List Value} (G : FnG X.prog X.w X.K X.mg X.base k f fd ps sp) (rg : Rg k X.A) (tk : Takes X W)
    (bd : BindsTo s fd ⟨us, ks.zip ws⟩ (ps.zip zs)) (I : Inv X pins σ H s) (r : Vals vs zs) (h : sp vs H Q (WE W σ)) : wpAny (model X.prog X.w) X.A (call (.ref f) us (ks.zip ws)) (EP X pins σ Q) X.xe s := by
  have run := G.run X.A X.stack s H ⟨us, ks.zip ws⟩ zs vs Q (WE W σ) rg I.env0 bd r h
  refine wpAny_call (codeAny_mono run fun r s' q => ?_)
  cases r with
  | error er => exact passAt tk σ pins H s er s' I q
  | ok fl => cases fl with
    | ret u => exact I.after q
    | next => exact q.elim
    | brk => exact q.elim
    | cont => exact q.elim
def callF (F : FD) (dds : List D) (fL : EL) : E1 := fun μ m => (fL μ m).bind fun ds m1 => F (ds ++ dds) m1
theorem pd_call {x : Str} {e : Expr} {es : List Expr} {fL : EL} {dds : List D} {dvs : List V} {dus : List Value} (G : FnG X.prog X.w X.K X.mg X.base k f fd ps (spD T ps.length F)) (rg : Rg k X.A) (tk : Takes X W) (hg : Gl X x) (hm : X.mg x = some (.ref f)) (kp : PySem.W.keepIn X.K (.ref f) = true)
    (n : (e :: es).length + dds.length = ps.length) (hb : Binds X.K fd ps dus) (hd : Vals dvs dus) (hdd : ∀ ρ H, Iss T ρ H dds dvs) (ha : PA X (e :: es) (TL T W fL)) (len : ∀ μ m ds m', fL μ m = .ok ds m' → ds.length = (e :: es).length)
    (hdb : (x == ("__debug__" : Str)) = false := by decide) (he : starEach (e :: es) X.env = (false, eval e X.env) :: starEach es X.env := by rfl) (hpl : (backTo pos (starEach es X.env)).any (·.1) = false := by rfl) :
    PE X (.Call (.Name x p) (e :: es) [] pos) (TD T W (callF F dds fL)) := ⟨fun pins s σ H Q I h => by
  obtain ⟨ρ, m, μ, st, ev, h⟩ := h
  refine wpAny_Call_Name_kw (ld_glob I hg hm ?_ hdb)
  refine PySem.W.callWith_K (h₀ := X.base) I.ok.mod.kin kp (thn (ha.run pos pins s σ H (fun vs H1 => spD T ps.length F (vs ++ dvs) H1 Q (WE W σ)) I ?_) fun us s1 ⟨vs, H1, I1, r, q⟩ => ⟨I1.kIn, ?_⟩) he hpl
  · refine ⟨ρ, m, μ, st, ev, ?_⟩
    unfold callF at h
    cases e1 : fL μ m with
    | ok ds m1 =>
      rw [e1] at h
      intro ρ1 H1 vs l s1 r
      have hl := len _ _ _ _ e1
      refine ⟨by rw [← (r.app (hdd ρ1 H1)).len, List.length_append, hl]; exact n, ρ1, m1, ds ++ dds, s1, r.app (hdd ρ1 H1), Po.le h l⟩
    | err c fs m1 => rw [e1] at h; exact h
    | bad => rw [e1] at h; exact h
  · have r2 := r.append hd
    exact run_g (ks := []) (ws := []) G rg tk (hb s1 us I1.kIn (by rw [← r2.length]; exact q.1)) I1 r2 q⟩
end
/-- lengths of argument lists -/
theorem len_nil {μ : Env'} {m : S} {ds : List D} {m' : S} (h : nilL μ m = .ok ds m') : ds.length = 0 := by cases h; rfl
theorem len_cons {f : E1} {g : EL} {n : Nat} (hg : ∀ μ m ds m', g μ m = .ok ds m' → ds.length = n) : ∀ μ m ds m', consL f g μ m = .ok ds m' → ds.length = n + 1 := fun μ m ds m' h => by
  unfold consL at h
  cases e1 : f μ m with
  | ok d m1 =>
    rw [e1] at h
    simp only [R.bind_ok] at h
    cases e2 : g μ m1 with
    | ok es m2 =>
      rw [e2] at h
      cases h
      rw [List.length_cons, hg _ _ _ _ e2]
    | err c fs m2 => rw [e2] at h; cases h
    | bad => rw [e2] at h; cases h
  | err c fs m1 => rw [e1] at h; cases h
  | bad => rw [e1] at h; cases h
end DL
end

section
set_option Elab.async false
set_option maxRecDepth 100000
set_option maxHeartbeats 4000000
set_option linter.all false
/-! D6: an own exception whose __init__ says super().__init__(text); self.f = x. -/
namespace DL
open PySem PySem.Spec PyProof.Rows PySem.W PySem.Calls

theorem passes_Run : ∀ self : Value, refuseLoop self "__setattr__" [.type "RuntimeError", .type "Exception", .type "BaseException", .type "object"] = pure () := fun self => by kernel_rfl
theorem passes_Over : ∀ self : Value, refuseLoop self "__setattr__" [.type "OverflowError", .type "ArithmeticError", .type "Exception", .type "BaseException", .type "object"] = pure () := fun self => by kernel_rfl
theorem passes_Look : ∀ self : Value, refuseLoop self "__setattr__" [.type "LookupError", .type "Exception", .type "BaseException", .type "object"] = pure () := fun self => by kernel_rfl
theorem passes_Val : ∀ self : Value, refuseLoop self "__setattr__" [.type "ValueError", .type "Exception", .type "BaseException", .type "object"] = pure () := F.store_ValueError.passes

section
open Builtin Builtin.ObjectAttr
variable {prog : Program} {w : World} {A : Around} {E : Value → Shared → Prop} {R : Result → Shared → Prop} {hp : Heap} {g : Array GenState} {d : Drawn} {t : Nat} {os : OsState}
/-- the first field of an exception, whatever its base -/
theorem field_new {K : Frag} {name : Str} {tk : Tok} {v : Value} {x C : Addr} {fv : Array Value} {cd : ClassData} (X : K.In hp) (hx : hp.get? x = some { cls := .ref C, data := .fields fv }) (hcd : clsIn K C = some cd)
    (pass : ∀ self : Value, refuseLoop self "__setattr__" cd.mro = pure ()) (hob : mroIn K C (.type "object") = some true) (hh : cd.hasDict = true) (ha : findIn K (.ref C) name = some none)
    (hq : ∀ h' tk' dx, (∀ b o, b ≠ x → hp.get? b = some o → h'.get? b = some o) → hp.objs.size ≤ dx → h'.get? x = some { cls := .ref C, dict := some dx, data := .fields fv } →
      h'.Ns1 dx (fun y => if y = name then some v else none) → R (.ok (.ret .none)) ⟨h', g, d, tk', os⟩) : codeAny (model prog w) A (.call (.builtin "object.__setattr__") ⟨[.ref x, .str name tk, v], []⟩) R ⟨hp, g, d, t, os⟩ := by
  have inst : InstAt hp x { cls := .ref C, data := .fields fv } C none := ⟨hx, rfl, rfl, trivial⟩
  have own : x ≠ hp.objs.size := Nat.ne_of_lt (Heap.lt_size hx)
  have S := F.store_object
  have sub : Looks (model prog w) hp (isInstance (.ref x) (.type "object")) true := inst.type.andThen (looks_mroIn X hob)
  refine codeAny_call_builtin S.slot.plain S.entry (@check_slot (model prog w) _ _ ⟨hp, g, d, t, os⟩ "object.__setattr__" "object" "__setattr__" (.ref x) [.str name tk, v] [] _ S.kind S.split sub (S.args (.ref x) (.str name tk) v) ?_)
  have lm : Looks (model prog w) hp (mroOf (.ref C)) cd.mro := (looks_clsIn X hcd).andThen .now
  have lt : Looks (model prog w) hp (storeTaker? none) none := .now
  have lc : Looks (model prog w) hp (classData C) cd := looks_clsIn X hcd
  rw [osa_eq, refuse_eq]
  refine wpAny_bind (wpAny_bind (inst.type.at (wpAny_bind (lm.at ?_))))
  rw [pass]
  refine wpAny_pure (wpAny_bind (inst.type.at (wpAny_bind ((looks_findIn X ha).at (wpAny_bind (lt.at ?_))))))
  show wpAny _ _ (storeInOwnDict (.ref x) (.ref C) (.str name tk) name v false) _ _ _
  obtain ⟨c1, c2, c3, c4, c5, hd, c7, c8, c9, c10, c11⟩ := cd
  dsimp only at hh
  subst hh
  unfold storeInOwnDict ownDictForStores
  repeat (first | with_reducible refine HandSPX.store_in_new ?_ ?_ | with_reducible refine wpAny_loadPart_at hx ?_ | with_reducible refine lc.at ?_ | wp_step)
  · exact ⟨_, #[], _, (Heap.get?_update_ne _ _ _ _ own.symm).trans (Heap.get?_push_at rfl rfl), rfl, fun e he => absurd he (by simp), fun _ => rfl⟩
  · intro h' tk' hn same
    have hx1 : (hp.push { cls := .type "dict", data := .dict #[] }).get? x = some { cls := .ref C, data := .fields fv } := Heap.get?_push_of_some _ hx
    refine hq h' tk' hp.objs.size (fun b o hb ho => ?_) (Nat.le_refl _) ?_ hn
    · exact (same.2 b (Nat.ne_of_lt (Heap.lt_size ho))).trans ((Heap.get?_update_ne _ _ _ _ hb).trans (Heap.get?_push_of_some _ ho))
    · exact (same.2 x own).trans (Heap.get?_update_self _ hx1 rfl)
/-- the bound built-in __init__, called -/
theorem bound_init {B newId initId : String} {bmB : List Value} {u x C t0 : Addr} {K : Frag} {rest : List Value} {Q : Value → Shared → Prop} (FB : ExcBaseFacts B newId initId bmB) (X : K.In hp) (q : excInitIn K C bmB newId = true)
    (hu : hp.get? u = some (kxs_mw initId x)) (he : hp.get? x = some (excObj C t0 none .none)) (hz : rest.length ≤ sizeLine)
    (h : ∀ h' t1, (∀ b o, b ≠ x → hp.get? b = some o → h'.get? b = some o) → h'.get? x = some (excObj C t1 none .none) → Q .none ⟨h', g, d, t, os⟩) : wpAny (model prog w) A (call (.ref u) rest) Q E ⟨hp, g, d, t, os⟩ := by
  obtain ⟨_, _, _, _, _, _, _, _, _, _, _, _, _, _, _, _, hC, _⟩ := excInit_of X q
  refine wpAny_call (codeAny_of_tree ?_)
  show wpAny _ A.in1 (callAny (.ref u) ⟨rest, []⟩) _ _ _
  simp only [callAny]
  refine wpAny_bind (wpAny_load hu ?_)
  simp only [kxs_mw, show (Value.type "method-wrapper" == Value.type "method" || Value.type "method-wrapper" == Value.type "builtin_function_or_method" || Value.type "method-wrapper" == Value.type "method-wrapper") = true by decide, if_true]
  refine KFB.if_so (by decide) ?_
  refine wpAny_bind (check_bound_init FB.toExcCallFacts hC he rfl ?_)
  refine wpAny_bind (wpAny_pure (wpAny_pure ?_))
  exact ⟨plainId_quiet FB.init.plain _, codeAny_builtin FB.initEntry (exc_init_tree (cls := .ref C) (t0 := t0) (dv := none) (c2 := .none) (c3 := .none) (b4 := .bool false) he hz fun h' k e _ => h h' _ k e)⟩
end

section
variable {prog : Program} {w : World} {K : Frag} {mg : Str → Option Value} {base : Heap} {C fI cc cda : Addr} {name qual sf gv f txt : Str} {params : Arguments} {scope : Scope} {dV kV doc pm ct oc ccl cl : Value} {an od cdd cld : Option Addr} {osl ccs csl : Array (Option Value)} {p1 p2 p3 p4 p5 p6 p7 p8 p9 p10 : Pos}
  {B newId initId : String} {bmB : List Value} {ar : Arg} {vs : Array Value} {file : Str} {tf : Tok} {cd : ClassData} {pl : Env → Sem Bool}
theorem make_ok (M : L2.Mod K mg base) (FB : ExcBaseFacts B newId initId bmB) (KF : KxsFacts B initId) (q : excInitIn K C bmB newId = true) (iC : findIn K (.ref C) "__init__" = some (some (.ref fI))) (tI : typeIn K (.ref fI) = some (.type "function"))
    (lk : K.lookup fI = some ⟨oc, od, .func (ksFn name qual params [.Expr (.Call (.Attribute (.Call (.Name "super" p1) [] [] p2) "__init__" p3) [.Constant (.str txt) 0 p4] [] p5) p6, .Assign [.Attribute (.Name sf p7) f p8] (.Name gv p9) p10] scope dV kV doc pm an (.ref cda) ct cc), osl⟩)
    (hcd : codeIn K (.ref cda) qual = true) (s1 : scope.names.lookup ("super" : Str) = some .globalImplicit) (s2 : scope.names.lookup ("__class__" : Str) = some .free) (s3 : scope.names.lookup sf = some .local) (s4 : scope.names.lookup gv = some .local)
    (sc : ∀ x ∈ scope.names, x.2 ≠ .cell) (sco : scope.isCoroutine = false) (sg : scope.isGenerator = false) (sk : scope.kind = .function) (hp : (params.posonlyargs ++ params.args).head? = some ar) (har : ar.arg = sf)
    (hb : ∀ a b : Value, bindArgs (ksFn name qual params [.Expr (.Call (.Attribute (.Call (.Name "super" p1) [] [] p2) "__init__" p3) [.Constant (.str txt) 0 p4] [] p5) p6, .Assign [.Attribute (.Name sf p7) f p8] (.Name gv p9) p10] scope dV kV doc pm an (.ref cda) ct cc) ⟨[a, b], []⟩ = pure [(sf, a), (gv, b)]) (ne : sf ≠ gv)
    (hcode : K.lookup cda = some ⟨ccl, cdd, .fields vs, ccs⟩) (hvs : vs[2]? = some (.str file tf)) (hfile : ((prog.main.file : Str) == file) = true) (htop : (prog.main.scope.names.lookup ("super" : Str)).isSome = false) (hcell : K.lookup cc = some ⟨cl, cld, .cell (some (.ref C)), csl⟩)
    (hcl : clsIn K C = some cd) (hsub : mroIn K C (.ref C) = some true) (hsup : ks_superIn K C C "__init__" = some (some (.builtin initId))) (hB : subIn K (.ref C) (.type B) = some true) (third : nsIn K cStatics "thirdparty.any" = some none) (hsn : nsIn K mainGlobals "super" = some none)
    (sa : findIn K (.ref C) "__setattr__" = some (some (.builtin "object.__setattr__"))) (noF : findIn K (.ref C) f = some none) (hd : cd.hasDict = true) (hob : mroIn K C (.type "object") = some true) (pass : ∀ self : Value, refuseLoop self "__setattr__" cd.mro = pure ())
    (hev : ∀ env : Env, eval (.Call (.Attribute (.Call (.Name "super" p1) [] [] p2) "__init__" p3) [.Constant (.str txt) 0 p4] [] p5) env = (do
      let ov ← attributeBase (.Call (.Name "super" p1) [] [] p2) "__init__" env (eval (.Call (.Name "super" p1) [] [] p2) env)
      standAt p3.atName
      let (f, first) ← holding [ov] (getMethod ov "__init__" (pl env))
      callWith p5 f first (backTo p5 (starEach [.Constant (.str txt) 0 p4] env)) []))
    (hst : ∀ env : Env, starEach [.Constant (.str txt) 0 p4] env = [(false, eval (.Constant (.str txt) 0 p4) env)]) (hsw1 : ∀ env : Env, swapsWith (.Call (.Attribute (.Call (.Name "super" p1) [] [] p2) "__init__" p3) [.Constant (.str txt) 0 p4] [] p5) none p6.line env = pure false)
    (hsw : ∀ env : Env, swapsWith (.Name gv p9) (some (.Attribute (.Name sf p7) f p8)) p10.line env = pure false)
    (hdb1 : (sf == ("__debug__" : Str)) = false) (hdb2 : (gv == ("__debug__" : Str)) = false) : MakeOk prog w base C f := by
  intro s stk u bk
  have X : K.In s.heap := M.kin.keeps bk
  obtain ⟨nm, N', qn, bs, bm, hdct, sn, sub, ab, col, dd, k0, k1, k2, k3, k5, hC, hT⟩ := excInit_of X q
  obtain ⟨hh, g, d, tk, os⟩ := s
  refine wpAny_call (HandSPX.call_own FB hT hC (looks_findIn X iC) (fun self => bind_fn X self tI) (show 1 ≤ sizeLine by decide) ?_)
  have kk : ∀ b o, hh.get? b = some o → ((hh.push (kdv_tup [u])).push (HandSPX.excO C hh.objs.size)).get? b = some o := fun b o e => Heap.get?_push_of_some _ (Heap.get?_push_of_some _ e)
  have hget : ((hh.push (kdv_tup [u])).push (HandSPX.excO C hh.objs.size)).get? (hh.objs.size + 1) = some (HandSPX.excO C hh.objs.size) := by heap_get
  have X2 : K.In ((hh.push (kdv_tup [u])).push (HandSPX.excO C hh.objs.size)) := X.keeps kk
  generalize (hh.push (kdv_tup [u])).push (HandSPX.excO C hh.objs.size) = h2 at kk hget X2
  have bk2 : ∀ b o, base.get? b = some o → h2.get? b = some o := fun b o e => kk b o (bk b o e)
  obtain ⟨mb, hmb, hbl⟩ := M.blt
  have room : (({ handled := none, depth := 980, frames := some stk, guards := some [], units := 9650 } : Around).under (.builtin "type.__call__" ⟨[.ref C, u], []⟩)).depth < recursionLimit := by
    show 980 + (Code.builtin "type.__call__" ⟨[.ref C, u], []⟩).weight < 1000
    rw [show (Code.builtin "type.__call__" ⟨[.ref C, u], []⟩).weight = 1 from rfl]
    decide
  refine ks_codeAny_call_defAt room (X2 _ _ lk) rfl (M.nolimit.keeps bk2) (codeRec_of X2 hcd) rfl (BindsTo.of_eq (hb _ _)) sc (fun x hx => ?_) (fun h3 ns3 k3 => ?_) sco sg sk
  · simp only [List.mem_cons, List.not_mem_nil, or_false] at hx
    rcases hx with rfl | rfl
    · exact s3
    · exact s4
  have X3 : K.In h3 := X2.keeps k3
  have bk3 : ∀ b o, base.get? b = some o → h3.get? b = some o := fun b o e => k3 b o (bk2 b o e)
  have self : (([(sf, Value.ref (hh.objs.size + 1)), (gv, u)] : List (Str × Value)).reverse.lookup sf) = some (.ref (hh.objs.size + 1)) := by
    have : (sf == gv) = false := by simpa using ne
    simp [List.lookup, this]
  have giv : (([(sf, Value.ref (hh.objs.size + 1)), (gv, u)] : List (Str × Value)).reverse.lookup gv) = some u := by simp [List.lookup]
  have I3 : InstAt h3 (hh.objs.size + 1) (HandSPX.excO C hh.objs.size) C none := ⟨k3 _ _ hget, rfl, rfl, trivial⟩
  have quiet : ∀ {L : Addr} {body : List Stmt}, interactive (callEnv (ksFn name qual params body scope dV kV doc pm an (.ref cda) ct cc) L fI) = false := fun {L body} => by
    show (scope.kind == .module && _) = false
    rw [sk]; rfl
  refine ks_wpAt_execs_cons (ks_wpAt_Expr_any (ks_wpAt_MethodCall (pl := pl _) ?_ (hev _)) quiet (hsw1 _))
  refine ks_wpAt_super_base (f := fI) (cc := cda) s1 s2 (by decide) rfl (X3 _ _ lk) rfl hp rfl (X3 _ _ hcode) rfl hvs hfile htop ?_
  refine ks_loadName_global sk s1 (loadGlobal_builtin (M.glob.keeps bk3) (mg_none_of M.kin M.glob hsn) (hmb.keeps bk3) ((hbl _ (by decide)).trans Boot.«super») ⟨rfl, ?_⟩)
  refine wpAny_loadName_free sk s2 rfl ⟨_, X3 _ _ hcell, rfl⟩ ?_
  rw [har]
  refine wpAny_loadName_local sk s3 ns3 self ?_
  obtain ⟨oD, hD1, hD2⟩ : ∃ oD, h3.get? C = some oD ∧ oD.data = .cls cd := by
    unfold clsIn at hcl
    split at hcl
    · rename_i ho
      cases hcl
      exact ⟨_, X3 _ _ ho, rfl⟩
    · cases hcl
  refine ks_wpAny_isType_cls hD1 hD2 ⟨rfl, ?_⟩
  refine ks_wpAny_call_super hD1 hD2 I3.at_ I3.cls (fun c e => nomatch e) (looks_mroIn X3 hsub) (fun h4 e4 k4 => ?_)
  have X4 : K.In h4 := X3.keeps k4
  have I4 : InstAt h4 (hh.objs.size + 1) (HandSPX.excO C hh.objs.size) C none := ⟨k4 _ _ I3.at_, rfl, rfl, trivial⟩
  unfold ks_superIn at hsup
  rw [hcl] at hsup
  refine kxs_getMethod KF e4 (looks_opaque X4 third) (l₀ := cd.mro) (fun A Q E s k q => wpAny_bind ((looks_clsIn X4 hcl) A _ E s k (wpAny_pure q))) rfl X4 hsup (I4.type.andThen (looks_subIn X4 hB)) (ks_ne X4 I4 hcl) (by decide) ?_
  have k5 : ∀ b o, h4.get? b = some o → (h4.push (kxs_mw initId (hh.objs.size + 1))).get? b = some o := fun b o e => Heap.get?_push_of_some _ e
  have g5 : (h4.push (kxs_mw initId (hh.objs.size + 1))).get? h4.objs.size = some (kxs_mw initId (hh.objs.size + 1)) := Heap.get?_push_at rfl rfl
  refine kxs_callWith (i := initId) (x := hh.objs.size + 1) (by rw [hst]; rfl) ?_
  rw [hst]
  refine evalArgs_plain ?_
  refine Calls.spliced_cons (KFB.if_not rfl (Constant_str ?_))
  refine Calls.spliced_nil ⟨g5, ?_⟩
  refine bound_init FB (X4.keeps k5) q g5 (t0 := hh.objs.size) (k5 _ _ I4.at_) (show 1 ≤ sizeLine by decide) fun h6 t1 k6 e6 => ?_
  have hne : ∀ {b : Addr} {o : Obj}, hh.get? b = some o → b ≠ hh.objs.size + 1 := fun {b o} e => Nat.ne_of_lt (Nat.lt_succ_of_lt (Heap.lt_size e))
  have all6 : ∀ b o, hh.get? b = some o → h6.get? b = some o := fun b o e => k6 b o (hne e) (k5 _ _ (k4 _ _ (k3 _ _ (kk _ _ e))))
  have X6 : K.In h6 := X.keeps all6
  obtain ⟨oL, esL, epL, eL, rL⟩ := ns3
  have neL : h2.objs.size ≠ hh.objs.size + 1 := Nat.ne_of_gt (Heap.lt_size hget)
  have ns6 : h6.Ns h2.objs.size fun x => ([(sf, Value.ref (hh.objs.size + 1)), (gv, u)] : List (Str × Value)).reverse.lookup x := ⟨oL, esL, epL, k6 _ _ neL (k5 _ _ (k4 _ _ eL)), rL⟩
  refine ks_wpAt_execs_cons (ks_wpAt_Assign_Attr (wpAt_of_wpAny (wpAny_Name ?_ hdb2)) (hsw _))
  refine wpAny_loadName_local sk s4 ns6 giv (wpAny_Name ?_ hdb1)
  refine wpAny_loadName_local sk s3 ns6 self ?_
  refine set_plain X6 (ox := HandSPX.excO C t1) (od := none) ⟨e6, rfl, rfl, trivial⟩ sa ?_
  refine field_new X6 e6 hcl pass hob hd noF fun h7 tk7 dx k7 l7 e7 n7 => ?_
  refine wpAt_of_wpAny (wpAny_execs_nil ⟨rfl, _, h7, tk7, rfl, rfl, ?_⟩)
  have out : hh.get? (hh.objs.size + 1) = none := by
    cases z : hh.get? (hh.objs.size + 1) with
    | none => rfl
    | some o => exact absurd (Heap.lt_size z) (Nat.not_lt.mpr (Nat.le_succ _))
  have l6 : hh.objs.size + 1 < h6.objs.size := Heap.lt_size e6
  refine ⟨fun b o e => k7 b o (hne e) (all6 b o e), out, dx, _, e7, rfl, ?_, Nat.ne_of_gt (Nat.lt_of_lt_of_le l6 l7), n7⟩
  cases z : hh.get? dx with
  | none => rfl
  | some o => exact absurd (Heap.lt_size (all6 _ _ z)) (Nat.not_lt.mpr l7)
end
end DL
end

section
set_option Elab.async false
set_option maxRecDepth 100000
set_option maxHeartbeats 4000000
set_option linter.all false
/-! D7: len, int, subscripts, slices, methods of texts and lists, stores. -/
namespace DL
open PySem PySem.Spec PyProof.Rows L2

/-! ### built-in functions -/
def lenF : CF := fun ds m => match ds with
  | [.str x] => if x.length ≤ cap then .ok (.int x.length) m else .bad
  | [d] => match items m d with
    | some xs => .ok (.int xs.length) m
    | none => .bad
  | _ => .bad
theorem cd_len {K : PySem.W.Frag} : CallD (fun xs H Q => ∃ x n, xs = [x] ∧ LenV K x H n ∧ Q (.int n) H) lenF := by
  intro T ρ m H ds vs Q E st r h
  unfold lenF at h
  split at h
  · cases r with
    | cons r1 r2 =>
      cases r2; cases r1
      split at h
      · rename_i hl
        exact ⟨_, _, rfl, ⟨cap_line hl, rfl⟩, h ρ H _ (.refl _ _) st (.int _)⟩
      · exact h.elim
  · cases r with
    | cons r1 r2 =>
      cases r2
      split at h
      · rename_i xs e
        obtain ⟨a, ys, rfl, hr, rr⟩ := items_is st r1 e
        refine ⟨_, ys.length, rfl, ?_, by rw [← rr.len]; exact h ρ H _ (.refl _ _) st (.int _)⟩
        rcases hr with hr | hr
        · exact .inl ⟨ys, .inl hr, rfl⟩
        · exact .inr ⟨ys, .inl hr, rfl⟩
      · exact h.elim
  · exact h.elim
def intCF : CF := fun ds m => match ds with
  | [.int i] => .ok (.int i) m
  | [.bl b] => .ok (.int (if b = true then 1 else 0)) m
  | _ => .bad
theorem cd_int : CallD (fun xs H Q => (∃ i, xs = [.int i] ∧ Q (.int i) H) ∨ ∃ k, xs = [.bl k] ∧ Q (.int (if k then 1 else 0)) H) intCF := by
  intro T ρ m H ds vs Q E st r h
  unfold intCF at h
  split at h
  · cases r with
    | cons r1 r2 => cases r2; cases r1; exact .inl ⟨_, rfl, h ρ H _ (.refl _ _) st (.int _)⟩
  · cases r with
    | cons r1 r2 => cases r2; cases r1; exact .inr ⟨_, rfl, h ρ H _ (.refl _ _) st (.int _)⟩
  · exact h.elim

/-! ### subscripts -/
def ixF : OpF := fun x y m => match y with
  | .int i => match x with
    | .str z => if z.length ≤ cap then (match atI z.cps.toList i with
      | some c => .ok (.str ⟨#[c]⟩) m
      | none => .bad) else .bad
    | d => match items m d with
      | some ds => match atI ds i with
        | some d => .ok d m
        | none => .bad
      | none => .bad
  | _ => .bad
theorem atI_iss {T : Tab} {ρ : List Addr} {H : Hp} {ds : List D} {vs : List V} {i : Int} {d : D} (r : Iss T ρ H ds vs) (e : atI ds i = some d) : ∃ v, atI vs i = some v ∧ Is T ρ H d v := by
  unfold atI at e ⊢
  rw [← r.len]
  cases q : ixN ds.length i with
  | none => rw [q] at e; cases e
  | some j =>
    rw [q] at e
    exact r.get e
theorem od_ix {K : PySem.W.Frag} : OpD (rIx K) ixF := by
  intro T ρ m H x y v w Q E st rx ry h
  unfold ixF at h
  split at h
  · cases ry
    split at h
    · cases rx
      split at h
      · rename_i hl
        split at h
        · rename_i c e
          exact .inr (.inr ⟨_, _, c, rfl, rfl, cap_line hl, e, h ρ H _ (.refl _ _) st (.str _)⟩)
        · exact h.elim
      · exact h.elim
    · split at h
      · rename_i ds e
        split at h
        · rename_i d e2
          obtain ⟨a, ys, rfl, hr, rr⟩ := items_is st rx e
          obtain ⟨u, e3, ru⟩ := atI_iss rr e2
          have q := h ρ H u (.refl _ _) st ru
          rcases hr with hr | hr
          · exact .inl ⟨a, ys, _, u, rfl, rfl, .inl hr, e3, q⟩
          · exact .inr (.inl ⟨a, ys, _, u, rfl, rfl, .inl hr, e3, q⟩)
        · exact h.elim
      · exact h.elim
  · exact h.elim
section
variable {X : Cx} {T : Tab} {W : WX} {pos : Pos}
theorem pd_ix {a b : Expr} {f g : E1} (ha : PE X a (TD T W f)) (hb : PE X b (TD T W g)) (hs : PlainIx b := by intro _ _; rfl) : PE X (.Subscript a b pos) (TD T W (bin ixF f g)) :=
  pe_imp (pe_ix ix_seq ha hb hs) fun σ H Q ⟨ρ, m, μ, st, ev, h⟩ => by
    obtain ⟨ρ0, m0, μ0, s0, e0, h0⟩ := TD.bind st ev h
    refine ⟨ρ0, m0, μ0, s0, e0, h0.mono (fun v H1 ⟨ρ1, m1, d, l1, st1, ev1, r1, h1⟩ => ?_) fun _ _ _ z => z⟩
    obtain ⟨ρ0, m0, μ0, s0, e0, h0⟩ := TD.bind st1 ev1 h1
    refine ⟨ρ0, m0, μ0, s0, e0, h0.mono (fun w H2 ⟨ρ2, m2, d2, l2, st2, ev2, r2, h2⟩ => ?_) fun _ _ _ z => z⟩
    exact od_ix T ρ2 m2 H2 d d2 v w Q _ st2 (r1.le l2) r2 h2

/-! ### slices -/
abbrev EP' := Env' → S → R (Option Int)
def TP (T : Tab) (W : WX) (f : EP') : TO := fun σ H Q => ∃ ρ m μ, StOk T ρ m H ∧ EnvOk T ρ H μ σ ∧ Po (α := Option Int) (β := Option Int) T (fun _ _ a b => a = b) ρ H (f μ m) Q fun c d H' => W c d σ H'
theorem po_imp {e : Option Expr} {t t' : TO} (h : PO X e t) (w : ∀ σ H Q, t' σ H Q → t σ H Q) : PO X e t' := ⟨fun pins s σ H Q I q => h.run pins s σ H Q I (w σ H Q q)⟩
def noP : EP' := fun _ m => .ok none m
def someP (f : E1) : EP' := fun μ m => (f μ m).bind fun d m1 => match d with
  | .int i => .ok (some i) m1
  | _ => .bad
theorem pp_none : PO X none (TP T W noP) := po_imp po_none fun σ H Q ⟨ρ, m, μ, st, ev, h⟩ => h ρ H none (.refl _ _) st rfl
theorem pp_some {e : Expr} {f : E1} (he : PE X e (TD T W f)) : PO X (some e) (TP T W (someP f)) := po_imp (po_some he) fun σ H Q ⟨ρ, m, μ, st, ev, h⟩ => by
  obtain ⟨ρ0, m0, μ0, s0, e0, h0⟩ := TD.bind (g := fun d m1 => match d with | .int i => R.ok (some i) m1 | _ => .bad) st ev h
  refine ⟨ρ0, m0, μ0, s0, e0, h0.mono (fun v H1 ⟨ρ1, m1, d, l, s, ev1, r, h1⟩ => ?_) fun _ _ _ z => z⟩
  cases r with
  | int i => exact ⟨i, rfl, h1 ρ1 H1 _ (.refl _ _) s rfl⟩
  | _ => exact h1.elim
def cutD (xs : List D) (lo hi : Option Int) : List D := (xs.drop (HT.sIx xs.length 0 lo)).take (HT.sIx xs.length xs.length hi - HT.sIx xs.length 0 lo)
theorem cut_iss {T : Tab} {ρ : List Addr} {H : Hp} {ds : List D} {vs : List V} (r : Iss T ρ H ds vs) (lo hi : Option Int) : Iss T ρ H (cutD ds lo hi) (cutV vs lo hi) := by
  unfold cutD cutV
  rw [r.len]
  exact (r.drop _).take _
def slF (x : D) (lo hi : Option Int) (m : S) : R D := match x with
  | .str z => if z.length ≤ cap then .ok (.str (cutS z lo hi)) m else .bad
  | .tup ds => .ok (.tup (cutD ds lo hi)) m
  | d => match elems m d with
    | some ds => .ok (.lst (cutD ds lo hi)) m
    | none => .bad
def slE (f : E1) (lo hi : EP') : E1 := fun μ m => (f μ m).bind fun d m1 => (lo μ m1).bind fun l m2 => (hi μ m2).bind fun u m3 => slF d l u m3
theorem cut_whole {xs : List D} {lo hi : Option Int} (h : HT.sIx xs.length 0 lo = 0 ∧ HT.sIx xs.length xs.length hi = xs.length) : cutD xs lo hi = xs := by
  unfold cutD
  rw [h.1, h.2]
  simp
theorem pd_slice {e : Expr} {lo hi : Option Expr} {p2 : Pos} {f : E1} {gl gh : EP'} (he : PE X e (TD T W f)) (hl : PO X lo (TP T W gl)) (hu : PO X hi (TP T W gh)) : PE X (.Subscript e (.Slice lo hi none p2) pos) (TD T W (slE f gl gh)) := by
  refine pe_imp (pe_slice (SlR.or sl_list (SlR.or sl_tupA sl_str)) he hl hu) fun σ H Q ⟨ρ, m, μ, st, ev, h⟩ => ?_
  obtain ⟨ρ0, m0, μ0, s0, e0, h0⟩ := TD.bind (g := fun d m1 => (gl μ m1).bind fun l m2 => (gh μ m2).bind fun u m3 => slF d l u m3) st ev h
  refine ⟨ρ0, m0, μ0, s0, e0, h0.mono (fun v H1 ⟨ρ1, m1, d, l1, st1, ev1, r1, h1⟩ => ?_) fun _ _ _ z => z⟩
  refine ⟨ρ1, m1, μ, st1, ev1, ?_⟩
  cases e1 : gl μ m1 with
  | err c fs m2 => rw [e1] at h1; exact h1
  | bad => rw [e1] at h1; exact h1
  | ok lo m2 =>
    rw [e1] at h1
    intro ρ2 H2 lo' l2 st2 elo
    subst elo
    have ev2 := ev1.le l2
    have r2 := r1.le l2
    have h2 := Po.le h1 l2
    refine ⟨ρ2, m2, μ, st2, ev2, ?_⟩
    simp only [R.bind_ok] at h2
    cases e2 : gh μ m2 with
    | err c fs m3 => rw [e2] at h2; exact h2
    | bad => rw [e2] at h2; exact h2
    | ok hi m3 =>
      rw [e2] at h2
      intro ρ3 H3 hi' l3 st3 ehi
      subst ehi
      have r3 := r2.le l3
      have h3 := Po.le h2 l3
      simp only [R.bind_ok] at h3
      unfold slF at h3
      split at h3
      · cases r3
        split at h3
        · rename_i hz
          exact .inr (.inr ⟨_, rfl, cap_line hz, h3 ρ3 H3 _ (.refl _ _) st3 (.str _)⟩)
        · exact h3.elim
      · rename_i ds
        obtain ⟨a, xs, rfl, ha, na, rr⟩ := r3.tup_inv
        refine .inr (.inl ⟨a, xs, rfl, .inl (.inl ha), fun whole => ?_, fun _ => tup_new st3 (cut_iss rr lo hi) h3⟩)
        rw [← rr.len] at whole
        refine h3 ρ3 H3 _ (.refl _ _) st3 ?_
        rw [cut_whole whole]
        exact .tup ha na rr
      · split at h3
        · rename_i ds e3
          obtain ⟨a, xs, rfl, ha, rr⟩ := elems_is st3 r3 e3
          exact .inl ⟨a, xs, rfl, .inl ha, lst_new st3 (cut_iss rr lo hi) h3⟩
        · exact h3.elim

/-! ### methods of texts -/
def MtD (K : PySem.W.Frag) (ty : String) (r : V → List V → Hp → VK → Prop) (g : D → CF) : Prop := ∀ (T : Tab) (ρ : List Addr) (m : S) (H : Hp) (d : D) (ds : List D) (v : V) (vs : List V) (Q : VK) (E : XK), StOk T ρ m H → Is T ρ H d v → Iss T ρ H ds vs → PoD T ρ H (g d ds m) Q E → r v vs H Q
/-- the receiver's type -/
def tyD (m : S) (ty : String) : D → Bool
  | .str _ => ty == "str"
  | d => ty == "list" && (elems m d).isSome
theorem tyD_is {K : PySem.W.Frag} {T : Tab} {ρ : List Addr} {m : S} {H : Hp} {ty : String} {d : D} {v : V} (st : StOk T ρ m H) (r : Is T ρ H d v) (h : tyD m ty d = true) : tyV K ty v H := by
  by_cases hs : ∃ x, d = .str x
  · obtain ⟨x, rfl⟩ := hs
    cases r
    exact beq_iff_eq.mp h
  · have h2 : (ty == "list" && (elems m d).isSome) = true := by
      cases d <;> first | exact h | exact absurd ⟨_, rfl⟩ hs
    obtain ⟨e1, e2⟩ := Bool.and_eq_true_iff.mp h2
    obtain ⟨ds, e3⟩ := Option.isSome_iff_exists.mp e2
    obtain ⟨a, xs, rfl, ha, _⟩ := elems_is st r e3
    exact .inl ⟨beq_iff_eq.mp e1, xs, .inl ha⟩
def methE (ty : String) (g : D → CF) (f : E1) (fl : EL) : E1 := fun μ m => (f μ m).bind fun d m1 => if tyD m1 ty d = true then (fl μ m1).bind fun ds m2 => g d ds m2 else .bad
theorem pd_meth {o e : Expr} {es : List Expr} {name : Str} {ty id : String} {r : V → List V → Hp → VK → Prop} {g : D → CF} {f : E1} {fl : EL} {apos cpos : Pos} (hg : MtD X.K ty r g) (pa : PlainAttrs ty) (slot : Slot ty name id) (hty : typeOf (.builtin id) = pure (.type "method_descriptor")) (hm : MtR X id r)
    (ho : PE X o (TD T W f)) (ha : PA X (e :: es) (TL T W fl)) (hbase : attributeBase o name X.env (eval o X.env) = eval o X.env := by rfl)
    (hfew : ((backTo cpos (starEach (e :: es) X.env)).all (fun x => !x.1) && (backToKw cpos (keywordEach [] X.env)).all (fun x => x.1.isSome) && decide ((e :: es).length + ([] : List Keyword).length + (if ([] : List Keyword).isEmpty then 0 else 1) < 30)) = true := by rfl)
    (hline : (apos.endLine == cpos.line) = true := by rfl) (hs : starEach (e :: es) X.env = (false, eval e X.env) :: starEach es X.env := by rfl) (hplain : (backTo cpos (starEach es X.env)).any (·.1) = false := by rfl) :
    PE X (.Call (.Attribute o name apos) (e :: es) [] cpos) (TD T W (methE ty g f fl)) :=
  pe_imp (pe_bm pa slot hty hm ho ha hbase hfew hline hs hplain) fun σ H Q ⟨ρ, m, μ, st, ev, h⟩ => by
    obtain ⟨ρ0, m0, μ0, s0, e0, h0⟩ := TD.bind (g := fun d m1 => if tyD m1 ty d = true then (fl μ m1).bind fun ds m2 => g d ds m2 else .bad) st ev h
    refine ⟨ρ0, m0, μ0, s0, e0, h0.mono (fun v H1 ⟨ρ1, m1, d, l1, st1, ev1, r1, h1⟩ => ?_) fun _ _ _ z => z⟩
    split at h1
    · rename_i ht
      refine ⟨tyD_is st1 r1 ht, ?_⟩
      obtain ⟨ρ0, m0, μ0, s0, e0, h0⟩ := TL.bind (g := fun ds m2 => g d ds m2) st1 ev1 h1
      refine ⟨ρ0, m0, μ0, s0, e0, h0.mono (fun vs H2 ⟨ρ2, m2, ds, l2, st2, ev2, r2, h2⟩ => ?_) fun _ _ _ z => z⟩
      exact hg T ρ2 m2 H2 d ds v vs Q _ st2 (r1.le l2) r2 h2
    · exact h1.elim
theorem strs_iss {T : Tab} {ρ : List Addr} {H : Hp} : ∀ ys : List Str, Iss T ρ H (ys.map .str) (ys.map V.str)
  | [] => .nil
  | y :: ys => .cons (.str y) (strs_iss ys)
def splitF : D → CF := fun d ds m => match d, ds with
  | .str a, [.str b] => if (b.length == 0) = false ∧ a.length + 2 ≤ cap then .ok (.lst ((Txt.split a b).map .str)) m else .bad
  | _, _ => .bad
theorem md_split : MtD X.K "str" (fun x xs H Q => ∃ a b, x = .str a ∧ xs = [.str b] ∧ (b.length == 0) = false ∧ a.length + 2 ≤ sizeLine ∧ rNewStrs (Txt.split a b) H Q) splitF := by
  intro T ρ m H d ds v vs Q E st r rs h
  unfold splitF at h
  split at h
  · cases r
    cases rs with
    | cons r1 r2 =>
      cases r2; cases r1
      split at h
      · rename_i hz
        exact ⟨_, _, rfl, rfl, hz.1, cap_line hz.2, lst_new st (strs_iss _) h⟩
      · exact h.elim
  · exact h.elim
/-- a list of texts -/
def strsOf : List D → Option (List Str)
  | [] => some []
  | .str x :: ds => (strsOf ds).map fun xs => x :: xs
  | _ :: _ => none
theorem strsOf_is {T : Tab} {ρ : List Addr} {H : Hp} : ∀ {ds : List D} {vs : List V} {ys : List Str}, Iss T ρ H ds vs → strsOf ds = some ys → vs = ys.map V.str
  | _, _, _, .nil, e => by cases e; rfl
  | _, _, _, .cons (d := d) (ds := ds) a b, e => by
    cases a with
    | str x =>
      simp only [strsOf] at e
      cases q : strsOf ds with
      | none => rw [q] at e; cases e
      | some xs =>
        rw [q] at e
        cases e
        rw [strsOf_is b q]; rfl
    | _ => cases e
def joinF : D → CF := fun d ds m => match d, ds with
  | .str a, [x] => match items m x with
    | some xs => match strsOf xs with
      | some ys => if (ys.map (·.length)).sum + ys.length * a.length ≤ cap then .ok (.str (Txt.join a ys)) m else .bad
      | none => .bad
    | none => .bad
  | _, _ => .bad
theorem md_join : MtD X.K "str" (fun x xs H Q => ∃ a p, ∃ ys : List Str, x = .str a ∧ xs = [.ref p] ∧ (SqL X.K H p (ys.map V.str) ∨ SqT X.K H p (ys.map V.str)) ∧ (ys.map (·.length)).sum + ys.length * a.length ≤ 16777216 ∧ Q (.str (Txt.join a ys)) H) joinF := by
  intro T ρ m H d ds v vs Q E st r rs h
  unfold joinF at h
  split at h
  · cases r
    cases rs with
    | cons r1 r2 =>
      cases r2
      split at h
      · rename_i xs e
        obtain ⟨a, us, rfl, hu, ru⟩ := items_is st r1 e
        split at h
        · rename_i ys e2
          split at h
          · rename_i hz
            have es := strsOf_is ru e2
            subst es
            exact ⟨_, a, ys, rfl, rfl, hu.elim (fun z => .inl (.inl z)) (fun z => .inr (.inl z)), Nat.le_trans hz (by decide), h ρ H _ (.refl _ _) st (.str _)⟩
          · exact h.elim
        · exact h.elim
      · exact h.elim
  · exact h.elim

/-! ### lists of the store -/
def appendF : D → CF := fun d ds m => match d, ds with
  | .ref n, [y] => match m[n]? with
    | some (.lst xs) => if xs.length ≤ cap then .ok .non (m.set n (.lst (xs ++ [y]))) else .bad
    | _ => .bad
  | _, _ => .bad
theorem md_append : MtD X.K "list" rAppend appendF := by
  intro T ρ m H d ds v vs Q E st r rs h
  unfold appendF at h
  split at h
  · rename_i n y
    cases r with
    | @ref _ a hn =>
      cases rs with
      | @cons _ w _ _ r1 r2 =>
        cases r2
        split at h
        · rename_i xs e
          split at h
          · rename_i hz
            obtain ⟨a', h1, ys, h2, h3⟩ := st.at e
            rw [hn] at h1; cases h1
            have hput := Le.put (o := .lst (ys ++ [w])) h2 (List.mem_of_getElem? hn)
            refine ⟨a, ys, _, rfl, rfl, h2, Nat.lt_of_le_of_lt (by rw [← h3.len]; exact hz) (by decide), h ρ _ _ hput (st.put hn ⟨_, upd_same, (h3.app (.cons r1 .nil)).le hput⟩) .non⟩
          · exact h.elim
        · exact h.elim
  · exact h.elim
def setF (o i v : D) (m : S) : Option S := match o, i with
  | .ref n, .int k => match m[n]? with
    | some (.lst xs) => match ixN xs.length k with
      | some j => some (m.set n (.lst (xs.set j v)))
      | none => none
    | _ => none
  | _, _ => none
/-- o[i] = e -/
def setIxS (fe fo fi : E1) : ST := liftS fe fun v => liftS fo fun o => liftS fi fun i μ m => match setF o i v m with
  | some m' => .nx μ m'
  | none => .bad
theorem sd_setIx {o i e : Expr} {fe fo fi : E1} {p : Pos} (he : PE X e (TD T W fe)) (ho : PE X o (TD T W fo)) (hi : PE X i (TD T W fi)) (hs : swapsWithSole [.Subscript o i p] e pos.line X.env = pure false := by rfl) (hw : swappedStores [.Subscript o i p] e X.env = pure none := by rfl)
    (h1 : (assignEach [.Subscript o i p] X.env).map (·.2) = [assign (.Subscript o i p) X.env] := by rfl)
    (ha : ∀ v, assign (.Subscript o i p) X.env v = (do
      let ov ← holding [v] (eval o X.env)
      let iv ← holding [v, ov] (eval i X.env)
      standAt p
      holding [v, ov, iv] (setItem ov iv v)
      release [v, ov, iv] []) := by intro _; rfl) : PS X (.Assign [.Subscript o i p] e pos) (TDS T W (setIxS fe fo fi)) :=
  ps_imp (ps_asg he (pg_sub ho hi set_list ha) hs hw h1) fun Dn σ H ⟨ρ, m, μ, st, ev, h⟩ => by
    obtain ⟨ρ0, m0, μ0, s0, e0, h0⟩ := TD.lift st ev h
    refine ⟨ρ0, m0, μ0, s0, e0, h0.mono (fun v H1 ⟨ρ1, m1, d, l1, st1, ev1, r1, h1⟩ => ?_) fun _ _ _ z => z⟩
    obtain ⟨ρ0, m0, μ0, s0, e0, h0⟩ := TD.lift st1 ev1 h1
    refine ⟨ρ0, m0, μ0, s0, e0, h0.mono (fun ov H2 ⟨ρ2, m2, dov, l2, st2, ev2, r2, h2⟩ => ?_) fun _ _ _ z => z⟩
    obtain ⟨ρ0, m0, μ0, s0, e0, h0⟩ := TD.lift st2 ev2 h2
    refine ⟨ρ0, m0, μ0, s0, e0, h0.mono (fun iv H3 ⟨ρ3, m3, di, l3, st3, ev3, r3, h3⟩ => ?_) fun _ _ _ z => z⟩
    have ro := r2.le l3
    have rv := (r1.le l2).le l3
    unfold setF at h3
    split at h3
    · rename_i m' e
      split at e
      · rename_i n k
        cases r3
        cases ro with
        | @ref _ a hn =>
          split at e
          · rename_i xs e3
            obtain ⟨a', h4, ys, h5, h6⟩ := st3.at e3
            rw [hn] at h4; cases h4
            split at e
            · rename_i j e4
              cases e
              have hput := Le.put (o := .lst (ys.set j v)) h5 (List.mem_of_getElem? hn)
              exact ⟨a, ys, _, j, rfl, rfl, h5, by rw [← h6.len]; exact e4, h3 ρ3 _ σ hput (st3.put hn ⟨_, upd_same, (h6.set rv j).le hput⟩) (ev3.le hput)⟩
            · cases e
          · cases e
      · cases e
    · exact h3.elim
end
end DL
end

section
set_option Elab.async false
set_option maxRecDepth 100000
set_option maxHeartbeats 4000000
set_option linter.all false
/-! D8: targets, assignments, for loops, comprehensions. -/
namespace DL
open PySem PySem.Spec PyProof.Rows L2

/-! ### targets -/
abbrev GD := D → Env' → Option Env'
abbrev GDs := List D → Env' → Option Env'
def TGD (T : Tab) (g : GD) (sl : List Nat) : TG := fun v σ H Q => ∃ ρ m μ d μ', StOk T ρ m H ∧ EnvOk T ρ H μ σ ∧ Is T ρ H d v ∧ g d μ = some μ' ∧ ∀ σ', EnvOk T ρ H μ' σ' → (∀ i, i ∉ sl → σ'[i]? = σ[i]?) → σ'.length = σ.length → Q σ' H
def TGDs (T : Tab) (g : GDs) (sl : List Nat) : TGs := fun vs σ H Q => ∃ ρ m μ ds μ', StOk T ρ m H ∧ EnvOk T ρ H μ σ ∧ Iss T ρ H ds vs ∧ g ds μ = some μ' ∧ ∀ σ', EnvOk T ρ H μ' σ' → (∀ i, i ∉ sl → σ'[i]? = σ[i]?) → σ'.length = σ.length → Q σ' H
theorem pg_imp {X : Cx} {e : Expr} {t t' : TG} (h : PG X e t) (w : ∀ v σ H Q, t' v σ H Q → t v σ H Q) : PG X e t' := ⟨fun pins s σ H v u Q I r q => h.run pins s σ H v u Q I r (w _ _ _ _ q)⟩
theorem pgs_imp {X : Cx} {e : List Expr} {t t' : TGs} (h : PGs X e t) (w : ∀ v σ H Q, t' v σ H Q → t v σ H Q) : PGs X e t' := ⟨fun pins s σ H v u Q I r q => h.run pins s σ H v u Q I r (w _ _ _ _ q)⟩
def gNm (i : Nat) : GD := fun d μ => some (μ.set i (some d))
def gNl : GDs := fun ds μ => match ds with
  | [] => some μ
  | _ => none
def gCn (g : GD) (gs : GDs) : GDs := fun ds μ => match ds with
  | d :: r => (g d μ).bind fun μ' => gs r μ'
  | [] => none
def gTp (n : Nat) (gs : GDs) : GD := fun d μ => match d with
  | .tup ds => if ds.length = n then gs ds μ else none
  | _ => none
section
variable {X : Cx} {T : Tab} {W : WX} {pos : Pos}
theorem gd_name {i : Nat} {x : Str} (hN : X.N.Nodup) (hi : X.N[i]? = some x) (hx : Loc X.env.scope x) (hf : X.fn x = true ∨ X.env.scope.names.lookup x = some .local) : PG X (.Name x pos) (TGD T (gNm i) [i]) :=
  pg_imp (pg_name hN hi hx hf) fun v σ H Q ⟨ρ, m, μ, d, μ', st, ev, r, e, h⟩ => by
    cases e
    exact h _ (ev.set r i) (fun j hj => List.getElem?_set_ne (fun z => hj (by rw [← z]; exact List.mem_singleton.mpr rfl))) (by simp)
theorem gd_nil : PGs X [] (TGDs T gNl []) := pgs_imp pgs_nil fun vs σ H Q ⟨ρ, m, μ, ds, μ', st, ev, r, e, h⟩ => by
  unfold gNl at e
  split at e
  · cases e
    cases r
    exact ⟨rfl, h σ ev (fun _ _ => rfl) rfl⟩
  · cases e
theorem gd_cons {e : Expr} {es : List Expr} {g : GD} {gs : GDs} {s1 s2 : List Nat} (h1 : PG X e (TGD T g s1)) (h2 : PGs X es (TGDs T gs s2)) (hs : (assignEach (e :: es) X.env).map (·.2) = assign e X.env :: (assignEach es X.env).map (·.2) := by rfl) :
    PGs X (e :: es) (TGDs T (gCn g gs) (s1 ++ s2)) := pgs_imp (pgs_cons h1 h2 hs) fun vs σ H Q ⟨ρ, m, μ, ds, μ', st, ev, r, e, h⟩ => by
  unfold gCn at e
  split at e
  · cases r with
    | @cons d v ds vs r1 r2 =>
      obtain ⟨μ1, e1, e2⟩ := Option.bind_eq_some_iff.mp e
      refine ⟨v, vs, rfl, ρ, m, μ, _, μ1, st, ev, r1, e1, fun σ1 ev1 k1 z1 => ⟨ρ, m, μ1, _, μ', st, ev1, r2, e2, fun σ2 ev2 k2 z2 => h σ2 ev2 (fun i hi => ?_) (z2.trans z1)⟩⟩
      rw [List.mem_append, not_or] at hi
      exact (k2 i hi.2).trans (k1 i hi.1)
  · cases e
theorem gd_tup {es : List Expr} {k : Nat} {gs : GDs} {n : Nat} {sl : List Nat} (hc : X.calm = true) (h : PGs X es (TGDs T gs sl)) (hn : (assignEach es X.env).length = n := by rfl) (hst : (assignEach es X.env).findIdx? (·.1) = none := by rfl) :
    PG X (.Tuple es k pos) (TGD T (gTp n gs) sl) := pg_imp (pg_tup hc h hn hst) fun v σ H Q ⟨ρ, m, μ, d, μ', st, ev, r, e, h⟩ => by
  unfold gTp at e
  split at e
  · split at e
    · rename_i ds hl
      obtain ⟨a, xs, rfl, ha, na, rr⟩ := r.tup_inv
      exact ⟨a, xs, rfl, .inl (.inl ha), by rw [← rr.len]; exact hl, ρ, m, μ, ds, μ', st, ev, rr, e, h⟩
    · cases e
  · cases e
/-- target = value -/
def asgS (f : E1) (g : GD) : ST := liftS f fun d μ m => match g d μ with
  | some μ' => .nx μ' m
  | none => .bad
theorem sd_asg {tg e : Expr} {f : E1} {g : GD} {sl : List Nat} (he : PE X e (TD T W f)) (hg : PG X tg (TGD T g sl)) (hs : swapsWithSole [tg] e pos.line X.env = pure false := by rfl) (hw : swappedStores [tg] e X.env = pure none := by rfl)
    (h1 : (assignEach [tg] X.env).map (·.2) = [assign tg X.env] := by rfl) : PS X (.Assign [tg] e pos) (TDS T W (asgS f g)) :=
  ps_imp (ps_asg he hg hs hw h1) fun Dn σ H ⟨ρ, m, μ, st, ev, h⟩ => by
    obtain ⟨ρ0, m0, μ0, s0, e0, h0⟩ := TD.lift st ev h
    refine ⟨ρ0, m0, μ0, s0, e0, h0.mono (fun v H1 ⟨ρ1, m1, d, l1, st1, ev1, r1, h1⟩ => ?_) fun _ _ _ z => z⟩
    split at h1
    · rename_i μ' e
      exact ⟨ρ1, m1, μ, d, μ', st1, ev1, r1, e, fun σ' ev' _ _ => h1 ρ1 H1 σ' (.refl _ _) st1 ev'⟩
    · exact h1.elim
/-- several values in a statement -/
def liftL (f : EL) (g : List D → ST) : ST := fun μ m => match f μ m with
  | .ok ds m1 => g ds μ m1
  | .err c fs m1 => .err c fs μ m1
  | .bad => .bad
theorem TL.lift {ρ : List Addr} {m : S} {μ : Env'} {σ : L2.St} {H : Hp} {Dn : Ends} {f : EL} {g : List D → ST} (st : StOk T ρ m H) (ev : EnvOk T ρ H μ σ) (h : PoS T ρ H (liftL f g μ m) Dn W) :
    TL T W f σ H fun vs H1 => ∃ ρ1 m1 ds, Le ρ H ρ1 H1 ∧ StOk T ρ1 m1 H1 ∧ EnvOk T ρ1 H1 μ σ ∧ Iss T ρ1 H1 ds vs ∧ PoS T ρ1 H1 (g ds μ m1) Dn W := by
  refine ⟨ρ, m, μ, st, ev, ?_⟩
  unfold liftL at h
  cases e : f μ m with
  | ok d m1 =>
    rw [e] at h
    exact fun ρ1 H1 v l s r => ⟨ρ1, m1, d, l, s, ev.le l, r, h.le l⟩
  | err c fs m1 =>
    rw [e] at h
    exact fun ρ1 H1 cls d l s r => h ρ1 H1 σ cls d l s (ev.le l) r
  | bad =>
    rw [e] at h
    exact h
def parS (i j : Nat) (f : EL) : ST := liftL f fun ds μ m => match ds with
  | [a, b] => .nx ((μ.set i (some a)).set j (some b)) m
  | _ => .bad
theorem sd_par {i j : Nat} {x y : Str} {a b : Expr} {f : EL} {px py pt : Pos} {kt k2 pt2} (hc : X.calm = true) (hN : X.N.Nodup) (hi : X.N[i]? = some x) (hj : X.N[j]? = some y) (hij : i ≠ j)
    (hx : X.env.scope.names.lookup x = some .local) (hy : X.env.scope.names.lookup y = some .local) (ha : PA X [a, b] (TL T W f))
    (hw : swappedStores [.Tuple [.Name x px, .Name y py] kt pt] (.Tuple [a, b] k2 pt2) X.env = pure (some [x, y]) := by rfl)
    (hs : swapsWithSole [.Tuple [.Name x px, .Name y py] kt pt] (.Tuple [a, b] k2 pt2) pos.line X.env = pure false := by rfl) : PS X (.Assign [.Tuple [.Name x px, .Name y py] kt pt] (.Tuple [a, b] k2 pt2) pos) (TDS T W (parS i j f)) :=
  ps_imp (ps_par hc hN hi hj hij hx hy ha hw hs) fun Dn σ H ⟨ρ, m, μ, st, ev, h⟩ => by
    obtain ⟨ρ0, m0, μ0, s0, e0, h0⟩ := TL.lift st ev h
    refine ⟨ρ0, m0, μ0, s0, e0, h0.mono (fun vs H1 ⟨ρ1, m1, ds, l1, st1, ev1, r1, h1⟩ => ?_) fun _ _ _ z => z⟩
    split at h1
    · cases r1 with
      | cons ra rr => cases rr with
        | cons rb rr => cases rr; exact ⟨_, _, rfl, h1 ρ1 H1 _ (.refl _ _) st1 ((ev1.set ra i).set rb j)⟩
    · exact h1.elim
def parS3 (i j l : Nat) (f : EL) : ST := liftL f fun ds μ m => match ds with
  | [a, b, c] => .nx (((μ.set i (some a)).set j (some b)).set l (some c)) m
  | _ => .bad
theorem sd_par3 {i j l : Nat} {x y z : Str} {a b c : Expr} {f : EL} {px py pz pt : Pos} {kt k2 pt2} (hc : X.calm = true) (hN : X.N.Nodup) (hi : X.N[i]? = some x) (hj : X.N[j]? = some y) (hl : X.N[l]? = some z) (hij : i ≠ j) (hil : i ≠ l) (hjl : j ≠ l)
    (hx : X.env.scope.names.lookup x = some .local) (hy : X.env.scope.names.lookup y = some .local) (hz : X.env.scope.names.lookup z = some .local) (ha : PA X [a, b, c] (TL T W f))
    (hw : swappedStores [.Tuple [.Name x px, .Name y py, .Name z pz] kt pt] (.Tuple [a, b, c] k2 pt2) X.env = pure (some [x, y, z]) := by rfl)
    (hs : swapsWithSole [.Tuple [.Name x px, .Name y py, .Name z pz] kt pt] (.Tuple [a, b, c] k2 pt2) pos.line X.env = pure false := by rfl) :
    PS X (.Assign [.Tuple [.Name x px, .Name y py, .Name z pz] kt pt] (.Tuple [a, b, c] k2 pt2) pos) (TDS T W (parS3 i j l f)) :=
  ps_imp (ps_par3 hc hN hi hj hl hij hil hjl hx hy hz ha hw hs) fun Dn σ H ⟨ρ, m, μ, st, ev, h⟩ => by
    obtain ⟨ρ0, m0, μ0, s0, e0, h0⟩ := TL.lift st ev h
    refine ⟨ρ0, m0, μ0, s0, e0, h0.mono (fun vs H1 ⟨ρ1, m1, ds, l1, st1, ev1, r1, h1⟩ => ?_) fun _ _ _ z => z⟩
    split at h1
    · cases r1 with
      | cons ra rr => cases rr with
        | cons rb rr => cases rr with
          | cons rc rr => cases rr; exact ⟨_, _, _, rfl, h1 ρ1 H1 _ (.refl _ _) st1 (((ev1.set ra i).set rb j).set rc l)⟩
    · exact h1.elim

/-! ### what is walked -/
structure WkD (T : Tab) (J : It) (ds : List D) (ρ0 : List Addr) (H0 : Hp) : Prop where
  goes : ∀ i ρ H, Le ρ0 H0 ρ H → i < ds.length → J.go i H
  stops : ∀ ρ H, Le ρ0 H0 ρ H → J.stop ds.length H
  yields : ∀ i ρ m H x H', Le ρ0 H0 ρ H → StOk T ρ m H → i < ds.length → J.yld i H x H' → ∃ d, ds[i]? = some d ∧ Le ρ H ρ H' ∧ StOk T ρ m H' ∧ Is T ρ H' d x
def TIt (T : Tab) (W : WX) (f : EL) : TI := fun σ H R => ∃ ρ m μ, StOk T ρ m H ∧ EnvOk T ρ H μ σ ∧ Po (α := List D) (β := It) T (fun ρ H ds J => WkD T J ds ρ H) ρ H (f μ m) R fun c d H' => W c d σ H'
theorem pi_imp {tg e : Expr} {t t' : TI} (h : PI X tg e t) (w : ∀ σ H R, t' σ H R → t σ H R) : PI X tg e t' := ⟨fun pins s σ H R I q => h.run pins s σ H R I (w _ _ _ q)⟩
/-- the items of a data list, a tuple, a text -/
def chars (z : Str) : List D := z.cps.toList.map fun c => .str ⟨#[c]⟩
def itF (d : D) (m : S) : R (List D) := match d with
  | .lst ds => .ok ds m
  | .scr ds => .ok ds m
  | _ => .bad
def itT (d : D) (m : S) : R (List D) := match d with
  | .tup ds => .ok ds m
  | _ => .bad
def itS (d : D) (m : S) : R (List D) := match d with
  | .str z => .ok (chars z) m
  | _ => .bad
def itE (g : D → S → R (List D)) (f : E1) : EL := fun μ m => (f μ m).bind g
theorem Le.rdl {ρ ρ' : List Addr} {H H' : Hp} (l : Le ρ H ρ' H') {a : Addr} {u : HO} (h : Rd H a u) (n : a ∉ ρ) (nt : NT u := by (intro _ z; cases z)) : Rd H' a u := (l.rd h n nt).1
/-- a data list -/
theorem frozen_is {ρ : List Addr} {H : Hp} {d : D} {v : V} {m : S} {ds : List D} (r : Is T ρ H d v) (e : itF d m = .ok ds m) : ∃ a xs, v = .ref a ∧ Rd H a (.lst xs) ∧ a ∉ ρ ∧ Iss T ρ H ds xs := by
  cases r <;> first | cases e | skip
  · exact ⟨_, _, rfl, .inl (by assumption), by assumption, by assumption⟩
  · exact ⟨_, _, rfl, .inr ⟨_, by assumption⟩, by assumption, by assumption⟩
theorem itF_ok {d : D} {m m' : S} {ds : List D} (e : itF d m = .ok ds m') : m' = m ∧ itF d m = .ok ds m := by
  unfold itF at e
  split at e <;> cases e <;> exact ⟨rfl, rfl⟩
theorem wk_list {K : PySem.W.Frag} {ρ : List Addr} {H : Hp} {a : Addr} {xs : List V} {ds : List D} (h : Rd H a (.lst xs)) (n : a ∉ ρ) (r : Iss T ρ H ds xs) : WkD T (Itl K a) ds ρ H where
  goes := fun i ρ1 H1 l hi => (walk_list (K := K) (xs := xs)).goes i H1 (by rw [← r.len]; exact hi) (.inl (l.rdl h n))
  stops := fun ρ1 H1 l => by rw [r.len]; exact (walk_list (K := K) (xs := xs)).stops H1 (.inl (l.rdl h n))
  yields := fun i ρ1 m H1 x H' l st hi y => by
    obtain ⟨e1, e2⟩ := (walk_list (K := K) (xs := xs)).yields i H1 x H' (by rw [← r.len]; exact hi) (.inl (l.rdl h n)) y
    subst e1
    obtain ⟨v, e3, rv⟩ := (r.le l).get (List.getElem?_eq_getElem hi)
    rw [e2] at e3; cases e3
    exact ⟨_, List.getElem?_eq_getElem hi, .refl _ _, st, rv⟩
theorem wk_tup {K : PySem.W.Frag} {ρ : List Addr} {H : Hp} {a : Addr} {xs : List V} {ds : List D} (h : H a = some (.tup xs)) (n : a ∉ ρ) (r : Iss T ρ H ds xs) : WkD T (Itt K a) ds ρ H where
  goes := fun i ρ1 H1 l hi => (walk_tup (K := K) (xs := xs)).goes i H1 (by rw [← r.len]; exact hi) (.inl (.inl (l.keep h n)))
  stops := fun ρ1 H1 l => by rw [r.len]; exact (walk_tup (K := K) (xs := xs)).stops H1 (.inl (.inl (l.keep h n)))
  yields := fun i ρ1 m H1 x H' l st hi y => by
    obtain ⟨e1, e2⟩ := (walk_tup (K := K) (xs := xs)).yields i H1 x H' (by rw [← r.len]; exact hi) (.inl (.inl (l.keep h n))) y
    subst e1
    obtain ⟨v, e3, rv⟩ := (r.le l).get (List.getElem?_eq_getElem hi)
    rw [e2] at e3; cases e3
    exact ⟨_, List.getElem?_eq_getElem hi, .refl _ _, st, rv⟩
theorem wk_str {ρ : List Addr} {H : Hp} {z : Str} : WkD T (Its z) (chars z) ρ H where
  goes := fun i ρ1 H1 l hi => (walk_str (z := z)).goes i H1 (by simpa [chars] using hi) True.intro
  stops := fun ρ1 H1 l => by
    have : (chars z).length = z.cps.size := by simp [chars]
    rw [this]; exact (walk_str (z := z)).stops H1 True.intro
  yields := fun i ρ1 m H1 x H' l st hi y => by
    obtain ⟨e1, c, e2, e3⟩ := (walk_str (z := z)).yields i H1 x H' (by simpa [chars] using hi) True.intro y
    subst e1 e3
    refine ⟨.str ⟨#[c]⟩, ?_, .refl _ _, st, .str _⟩
    simp [chars, e2]
def rngD (n : Int) : List D := (List.range n.toNat).map fun i => .int (i : Nat)
theorem wk_rng {ρ : List Addr} {H : Hp} {n : Int} : WkD T (Itr 0 n.toNat) (rngD n) ρ H where
  goes := fun i ρ1 H1 l hi => (walk_range (lo := 0) (n := n.toNat)).goes i H1 (by simpa [rngD] using hi) True.intro
  stops := fun ρ1 H1 l => by
    have : (rngD n).length = n.toNat := by simp [rngD]
    rw [this]; exact (walk_range (lo := 0)).stops H1 True.intro
  yields := fun i ρ1 m H1 x H' l st hi y => by
    obtain ⟨e1, e2⟩ := (walk_range (lo := 0) (n := n.toNat)).yields i H1 x H' (by simpa [rngD] using hi) True.intro y
    subst e1 e2
    refine ⟨.int (0 + i), ?_, .refl _ _, st, .int _⟩
    have : i < n.toNat := by simpa [rngD] using hi
    simp [rngD, this]
section
variable {tg : Expr}
theorem pid_list {l : Expr} {f : E1} (hl : PE X l (TD T W f)) : PI X tg l (TIt T W (itE itF f)) := pi_imp (pi_list hl) fun σ H R ⟨ρ, m, μ, st, ev, h⟩ => by
  obtain ⟨ρ0, m0, μ0, s0, e0, h0⟩ := TD.bind (g := itF) st ev h
  refine ⟨ρ0, m0, μ0, s0, e0, h0.mono (fun v H1 ⟨ρ1, m1, d, l1, st1, ev1, r1, h1⟩ => ?_) fun _ _ _ z => z⟩
  cases e : itF d m1 with
  | ok ds m2 =>
    obtain ⟨rfl, e⟩ := itF_ok e
    obtain ⟨a, xs, rfl, ha, na, rr⟩ := frozen_is r1 e
    rw [e] at h1
    exact ⟨a, rfl, ⟨xs, .inl ha⟩, h1 ρ1 H1 _ (.refl _ _) st1 (wk_list ha na rr)⟩
  | err c fs m2 => unfold itF at e; split at e <;> cases e
  | bad => rw [e] at h1; exact h1.elim
theorem pid_tup {l : Expr} {f : E1} (hl : PE X l (TD T W f)) : PI X tg l (TIt T W (itE itT f)) := pi_imp (pi_tup hl) fun σ H R ⟨ρ, m, μ, st, ev, h⟩ => by
  obtain ⟨ρ0, m0, μ0, s0, e0, h0⟩ := TD.bind (g := itT) st ev h
  refine ⟨ρ0, m0, μ0, s0, e0, h0.mono (fun v H1 ⟨ρ1, m1, d, l1, st1, ev1, r1, h1⟩ => ?_) fun _ _ _ z => z⟩
  unfold itT at h1
  split at h1
  · obtain ⟨a, xs, rfl, ha, na, rr⟩ := r1.tup_inv
    exact ⟨a, rfl, ⟨xs, .inl (.inl ha)⟩, h1 ρ1 H1 _ (.refl _ _) st1 (wk_tup ha na rr)⟩
  · exact h1.elim
theorem pid_str {l : Expr} {f : E1} (hl : PE X l (TD T W f)) : PI X tg l (TIt T W (itE itS f)) := pi_imp (pi_str hl) fun σ H R ⟨ρ, m, μ, st, ev, h⟩ => by
  obtain ⟨ρ0, m0, μ0, s0, e0, h0⟩ := TD.bind (g := itS) st ev h
  refine ⟨ρ0, m0, μ0, s0, e0, h0.mono (fun v H1 ⟨ρ1, m1, d, l1, st1, ev1, r1, h1⟩ => ?_) fun _ _ _ z => z⟩
  unfold itS at h1
  split at h1
  · cases r1
    exact ⟨_, rfl, h1 ρ1 H1 _ (.refl _ _) st1 wk_str⟩
  · exact h1.elim
def rngF : EL → EL := fun f μ m => (f μ m).bind fun ds m1 => match ds with
  | [.int j] => if -(2 ^ 62) ≤ j ∧ j < 2 ^ 62 then .ok (rngD j) m1 else .bad
  | _ => .bad
theorem pid_rng {a : Expr} {f : EL} {p : Pos} (hg : Gl X "range") (hm : X.mg "range" = none) (ha : PA X [a] (TL T W f)) (hs : starEach [a] X.env = [(false, eval a X.env)] := by rfl) : PI X tg (.Call (.Name "range" p) [a] [] pos) (TIt T W (rngF f)) :=
  pi_imp (pi_range1 hg hm ha hs) fun σ H R ⟨ρ, m, μ, st, ev, h⟩ => by
    obtain ⟨ρ0, m0, μ0, s0, e0, h0⟩ := TL.bind st ev h
    refine ⟨ρ0, m0, μ0, s0, e0, h0.mono (fun vs H1 ⟨ρ1, m1, ds, l1, st1, ev1, r1, h1⟩ => ?_) fun _ _ _ z => z⟩
    split at h1
    · cases r1 with
      | cons ra rr =>
        cases rr; cases ra
        split at h1
        · rename_i hj
          exact ⟨_, rfl, hj.1, hj.2, h1 ρ1 H1 _ (.refl _ _) st1 wk_rng⟩
        · exact h1.elim
    · exact h1.elim
end

/-! ### for -/
def loopS (g : GD) (b : ST) : List D → ST
  | [], μ, m => .nx μ m
  | x :: xs, μ, m => match g x μ with
    | none => .bad
    | some μ1 => match b μ1 m with
      | .nx μ2 m2 => loopS g b xs μ2 m2
      | .ct μ2 m2 => loopS g b xs μ2 m2
      | .bk μ2 m2 => .nx μ2 m2
      | .ret d m2 => .ret d m2
      | .err c fs μ2 m2 => .err c fs μ2 m2
      | .bad => .bad
def forS (f : EL) (g : GD) (b : ST) : ST := liftL f (loopS g b)
theorem sd_for {tg iter : Expr} {body : List Stmt} {f : EL} {g : GD} {sl : List Nat} {b : ST} (hp : PassesOwn (model X.prog X.w) X.A X.env X.xe) (hc : X.calm = true) (hi : PI X tg iter (TIt T W f)) (hg : PG X tg (TGD T g sl)) (hb : PSs X body (TDS T W b))
    (hs : ∀ x, foldedSetIterable iter X.env x = pure x := by intro _; rfl) : PS X (.For tg iter body [] pos) (TDS T W (forS f g b)) :=
  ps_imp (ps_for hp hc hi hg hb hs) fun Dn σ H ⟨ρ, m, μ, st, ev, h⟩ => by
    refine ⟨ρ, m, μ, st, ev, ?_⟩
    unfold forS liftL at h
    cases e : f μ m with
    | err c fs m1 =>
      rw [e] at h
      exact fun ρ1 H1 cls d l s r => h ρ1 H1 σ cls d l s (ev.le l) r
    | bad => rw [e] at h; exact h
    | ok ds m1 =>
      rw [e] at h
      intro ρ1 H1 J l1 st1 wk
      have h := PoS.le h l1
      refine ⟨fun i k σ' H' => k = ds.length - i ∧ i ≤ ds.length ∧ ∃ ρ' m' μ', Le ρ1 H1 ρ' H' ∧ StOk T ρ' m' H' ∧ EnvOk T ρ' H' μ' σ' ∧ PoS T ρ' H' (loopS g b (ds.drop i) μ' m') Dn W, ⟨ds.length, by simp, by simp, ρ1, m1, μ, .refl _ _, st1, ev.le l1, by simpa using h⟩, ?_⟩
      rintro i k σ' H' ⟨rfl, hi, ρ', m', μ', l', st', ev', h'⟩
      by_cases hlt : i < ds.length
      · refine .inr ⟨wk.goes i ρ' H' l' hlt, fun σ2 H2 => ∃ ρ2 m2 μ2, Le ρ1 H1 ρ2 H2 ∧ StOk T ρ2 m2 H2 ∧ EnvOk T ρ2 H2 μ2 σ2 ∧ PoS T ρ2 H2 (loopS g b (ds.drop (i + 1)) μ2 m2) Dn W, fun σ2 H2 z => ⟨ds.length - (i + 1), by omega, rfl, by omega, z⟩, fun x H2 y => ?_⟩
        obtain ⟨d, ed, l2, st2, r2⟩ := wk.yields i ρ' m' H' x H2 l' st' hlt y
        have eds : ds.drop i = d :: ds.drop (i + 1) := by
          rw [List.drop_eq_getElem_cons hlt]
          rw [List.getElem?_eq_getElem hlt] at ed
          rw [Option.some.inj ed]
        rw [eds] at h'
        unfold loopS at h'
        cases eg : g d μ' with
        | none => rw [eg] at h'; exact h'.elim
        | some μ1 =>
          rw [eg] at h'
          dsimp only at h'
          refine ⟨ρ', m', μ', d, μ1, st2, ev'.le l2, r2, eg, fun σ1 ev1 _ _ => ⟨ρ', m', μ1, st2, ev1, ?_⟩⟩
          have h2 := PoS.le h' l2
          have l3 := l'.trans l2
          cases eb : b μ1 m' with
          | nx μ2 m2 => rw [eb] at h2; exact fun ρ3 H3 σ3 l4 st3 ev3 => ⟨ρ3, m2, μ2, l3.trans l4, st3, ev3, PoS.le h2 l4⟩
          | ct μ2 m2 => rw [eb] at h2; exact fun ρ3 H3 σ3 l4 st3 ev3 => ⟨ρ3, m2, μ2, l3.trans l4, st3, ev3, PoS.le h2 l4⟩
          | bk μ2 m2 => rw [eb] at h2; exact h2
          | ret d2 m2 => rw [eb] at h2; exact h2
          | err c fs μ2 m2 => rw [eb] at h2; exact h2
          | bad => rw [eb] at h2; exact h2
      · have e1 : i = ds.length := by omega
        subst e1
        refine .inl ⟨wk.stops ρ' H' l', ?_⟩
        rw [List.drop_length] at h'
        exact h' ρ' H' σ' (.refl _ _) st' ev'
end
end DL
end

section
set_option Elab.async false
set_option maxRecDepth 100000
set_option maxHeartbeats 4000000
set_option linter.all false
/-! D9: list comprehensions; what leaves a block is freed of the block's store. -/
namespace DL
open PySem PySem.Spec PyProof.Rows L2

/-! ### values that name no place from n on -/
mutual
def cl (n : Nat) : D → Bool
  | .non => true
  | .bl _ => true
  | .int _ => true
  | .str _ => true
  | .tup xs => cls n xs
  | .lst xs => cls n xs
  | .scr xs => cls n xs
  | .dic _ xs => cls n xs
  | .ref k => decide (k < n)
  | .con _ => true
  | .exc _ xs => cls n xs
  | .obj _ xs => cls n xs
  | .lam _ _ => false
def cls (n : Nat) : List D → Bool
  | [] => true
  | d :: ds => cl n d && cls n ds
end
def clOb (n : Nat) : Ob → Bool
  | .lst xs => cls n xs
  | .dic _ xs => cls n xs
  | .ins _ xs => cls n xs
section
variable {T : Tab} {ρ t : List Addr} {H : Hp}
theorem nin_left {a : Addr} (h : a ∉ ρ ++ t) : a ∉ ρ := fun z => h (List.mem_append_left _ z)
mutual
theorem Is.shrink : ∀ {d : D} {v : V}, Is T (ρ ++ t) H d v → cl ρ.length d = true → Is T ρ H d v
  | _, _, .non, _ => .non
  | _, _, .bl b, _ => .bl b
  | _, _, .int i, _ => .int i
  | _, _, .str x, _ => .str x
  | _, _, .tup h n r, c => .tup h (nin_left n) (Iss.shrink r (by simpa only [cl] using c))
  | _, _, .lst h n r, c => .lst h (nin_left n) (Iss.shrink r (by simpa only [cl] using c))
  | _, _, .scr h n r, c => .scr h (nin_left n) (Iss.shrink r (by simpa only [cl] using c))
  | _, _, .dic h n e r, c => .dic h (nin_left n) e (Iss.shrink r (by simpa only [cl] using c))
  | _, _, .ref (n := k) h, c => .ref (by
      have hk : k < ρ.length := by simpa only [cl, decide_eq_true_eq] using c
      rw [List.getElem?_append_left hk] at h
      exact h)
  | _, _, .con v, _ => .con v
  | _, _, .exc h n r e q, c => .exc h (nin_left n) (Iss.shrink r (by simpa only [cl] using c)) e (q.elim .inl fun ⟨dx, e1, e2, e3⟩ => .inr ⟨dx, e1, nin_left e2, e3⟩)
  | _, _, .obj h n r, c => .obj h (nin_left n) (Iss.shrink r (by simpa only [cl] using c))
  | _, _, .lam _ _, c => by simp only [cl] at c; cases c
theorem Iss.shrink : ∀ {ds : List D} {vs : List V}, Iss T (ρ ++ t) H ds vs → cls ρ.length ds = true → Iss T ρ H ds vs
  | _, _, .nil, _ => .nil
  | _, _, .cons a b, c => by
    simp only [cls, Bool.and_eq_true] at c
    exact .cons (Is.shrink a c.1) (Iss.shrink b c.2)
end
theorem StOk.shrink {m : S} (st : StOk T (ρ ++ t) m H) (c : (m.take ρ.length).all (clOb ρ.length) = true) : StOk T ρ (m.take ρ.length) H where
  len := by
    have := st.len
    rw [List.length_append] at this
    rw [List.length_take]
    omega
  nd := (List.nodup_append.mp st.nd).1
  obs := fun n a ob e1 e2 => by
    have hn : n < ρ.length := (List.getElem?_eq_some_iff.mp e1).1
    have e3 : m[n]? = some ob := by rw [List.getElem?_take, if_pos hn] at e2; exact e2
    have hc : clOb ρ.length ob = true := List.all_eq_true.mp c ob (List.mem_of_getElem? e2)
    have o := st.obs n a ob (by rw [List.getElem?_append_left hn]; exact e1) e3
    cases ob with
    | lst ds => obtain ⟨xs, q, r⟩ := o; exact ⟨xs, q, r.shrink hc⟩
    | dic ks ds => obtain ⟨xs, q, z, r⟩ := o; exact ⟨xs, q, z, r.shrink hc⟩
    | ins c ds => obtain ⟨dx, xs, q, r⟩ := o; exact ⟨dx, xs, q, r.shrink hc⟩
  tabs := st.tabs
theorem Le.shrink {H' : Hp} (l : Le ρ H (ρ ++ t) H') : Le ρ H ρ H' := ⟨⟨[], by simp⟩, l.stay, l.dom⟩
end
/-- the list at n, taken out of the store -/
def takeL (n : Nat) (m : S) : R D := match m[n]? with
  | some (.lst ds) => if cls n ds = true ∧ (m.take n).all (clOb n) = true then .ok (.lst ds) (m.take n) else .bad
  | _ => .bad

/-! ### wiped slots -/
def wipeD (μ : Env') : List Nat → Env'
  | [] => μ
  | v :: vs => (wipeD μ vs).set v none
theorem EnvOk.wipe {T : Tab} {ρ : List Addr} {H : Hp} {μ : Env'} {σ : L2.St} (ev : EnvOk T ρ H μ σ) : ∀ vs : List Nat, EnvOk T ρ H (wipeD μ vs) (wipe σ vs)
  | [] => ev
  | v :: vs => (EnvOk.wipe ev vs).clear v
theorem wipe_get (σ : L2.St) (i : Nat) : ∀ vs : List Nat, (wipe σ vs)[i]? = if i ∈ vs ∧ i < σ.length then some none else σ[i]?
  | [] => by simp [wipe]
  | v :: vs => by
    unfold wipe
    by_cases h : v = i
    · subst h
      by_cases hl : v < σ.length
      · rw [List.getElem?_set_self (by rw [wipe_length]; exact hl), if_pos ⟨List.mem_cons_self .., hl⟩]
      · rw [if_neg (fun z => hl z.2), List.getElem?_eq_none (by simp [wipe_length]; omega), List.getElem?_eq_none (by omega)]
    · rw [List.getElem?_set_ne h, wipe_get σ i vs]
      have : (i ∈ v :: vs) ↔ i ∈ vs := by simp [Ne.symm h]
      simp only [this]
theorem wipe_same {σ σ2 : L2.St} {vs sl : List Nat} (hl : σ2.length = σ.length) (hs : ∀ i ∈ sl, i ∈ vs) (h : ∀ i, i ∉ sl → σ2[i]? = (wipe σ vs)[i]?) : wipe σ2 vs = wipe σ vs := by
  refine List.ext_getElem? fun i => ?_
  rw [wipe_get σ2 i vs, wipe_get σ i vs]
  by_cases hi : i ∈ vs
  · by_cases hz : i < σ.length
    · rw [if_pos ⟨hi, by omega⟩, if_pos ⟨hi, hz⟩]
    · rw [if_neg (fun z => hz (by omega)), if_neg (fun z => hz z.2), List.getElem?_eq_none (by omega), List.getElem?_eq_none (by omega)]
  · rw [if_neg (fun z => hi z.1), if_neg (fun z => hi z.1), h i (fun z => hi (hs i z)), wipe_get σ i vs, if_neg (fun z => hi z.1)]

section
variable {X : Cx} {T : Tab} {W : WX} {pos : Pos}
/-- the tests of a comprehension -/
abbrev W0 : WX := fun _ _ _ _ => False
def yesB : EB := fun _ m => .ok true m
theorem pts_imp {c : List Expr} {t t' : TT} (h : PTs X c t) (w : ∀ σ H Q, t' σ H Q → t σ H Q) : PTs X c t' := ⟨fun pins s σ H Q I q => h.run pins s σ H Q I (w _ _ _ q)⟩
theorem ptd_nil : PTs X [] (TB T W yesB) := pts_imp pts_nil fun σ H Q ⟨ρ, m, μ, st, ev, h⟩ => h ρ H true (.refl _ _) st rfl
theorem ptd_one {c : Expr} {f : EB} (h : PT X c (TB T W f)) : PTs X [c] (TB T W f) := pts_one h
/-- one turn after another; n: where the new list stands -/
def lcLoop (n : Nat) (g : GD) (tt : EB) (te : E1) (μ : Env') : List D → S → Option S
  | [], m => some m
  | x :: xs, m => match g x μ with
    | none => none
    | some μ1 => match tt μ1 m with
      | .ok true m1 => match te μ1 m1 with
        | .ok y m2 => match m2[n]? with
          | some (.lst acc) => if acc.length ≤ cap then lcLoop n g tt te μ xs (m2.set n (.lst (acc ++ [y]))) else none
          | _ => none
        | _ => none
      | .ok false m1 => lcLoop n g tt te μ xs m1
      | _ => none
def lcE (vs : List Nat) (f : EL) (g : GD) (tt : EB) (te : E1) : E1 := fun μ m => (f μ m).bind fun ds m1 => match lcLoop m1.length g tt te (wipeD μ vs) ds (m1 ++ [.lst []]) with
  | some m2 => takeL m1.length m2
  | none => .bad
theorem take_ok {ρ0 : List Addr} {H0 : Hp} {t : List Addr} {m : S} {H : Hp} {D : Addr} {Q : VK} {E : XK} (l : Le ρ0 H0 (ρ0 ++ D :: t) H) (st : StOk T (ρ0 ++ D :: t) m H) (h : PoD T ρ0 H0 (takeL ρ0.length m) Q E) : Q (.ref D) H := by
  unfold takeL at h
  split at h
  · rename_i ds e
    split at h
    · rename_i hc
      have hD : (ρ0 ++ D :: t)[ρ0.length]? = some D := by simp
      obtain ⟨xs, hx, rx⟩ := st.obs ρ0.length D _ hD e
      refine h ρ0 H (.ref D) l.shrink (st.shrink hc.2) (.lst hx ?_ (rx.shrink hc.1))
      intro z
      exact (List.nodup_append.mp st.nd).2.2 D z D (List.mem_cons_self ..) rfl
    · exact h.elim
  · exact h.elim
theorem lc_imp {sl vs : List Nat} {f : EL} {g : GD} {tt : EB} {te : E1} (hsl : ∀ i ∈ sl, i ∈ vs) : ∀ σ H Q, TD T W (lcE vs f g tt te) σ H Q → tLc (TIt T W f) (TGD T g sl) (TB T W0 tt) (TD T W0 te) vs σ H Q := by
  intro σ H Q ⟨ρ, m, μ, st, ev, h⟩
  refine ⟨ρ, m, μ, st, ev, ?_⟩
  unfold lcE at h
  cases e : f μ m with
  | err c fs m1 => rw [e] at h; exact h
  | bad => rw [e] at h; exact h
  | ok ds m1 =>
    rw [e] at h
    intro ρ1 H1 J l1 st1 wk D hD
    have h := Po.le h l1
    simp only [R.bind_ok] at h
    have lp : Le ρ1 H1 (ρ1 ++ [D]) (upd H1 D (.lst [])) := .place hD
    have sp : StOk T (ρ1 ++ [D]) (m1 ++ [.lst []]) (upd H1 D (.lst [])) := st1.place hD ⟨[], upd_same, .nil⟩
    have ew := (ev.le l1).wipe vs
    refine ⟨fun i k H' => k = ds.length - i ∧ i ≤ ds.length ∧ ∃ t m', Le ρ1 H1 (ρ1 ++ D :: t) H' ∧ StOk T (ρ1 ++ D :: t) m' H' ∧ ∃ m2, lcLoop m1.length g tt te (wipeD μ vs) (ds.drop i) m' = some m2 ∧ PoD T ρ1 H1 (takeL m1.length m2) Q fun c d H' => W c d σ H', ⟨ds.length, by simp, by simp, [], m1 ++ [.lst []], lp, sp, ?_⟩, ?_⟩
    · split at h
      · rename_i m2 e2
        exact ⟨m2, by simpa using e2, h⟩
      · exact h.elim
    rintro i k H' ⟨rfl, hi, t, m', l', st', m2, e2, h2⟩
    by_cases hlt : i < ds.length
    · refine .inr ⟨wk.goes i _ H' l' hlt, fun H2 => ∃ t m', Le ρ1 H1 (ρ1 ++ D :: t) H2 ∧ StOk T (ρ1 ++ D :: t) m' H2 ∧ ∃ m2, lcLoop m1.length g tt te (wipeD μ vs) (ds.drop (i + 1)) m' = some m2 ∧ PoD T ρ1 H1 (takeL m1.length m2) Q fun c d H' => W c d σ H', fun H2 z => ⟨ds.length - (i + 1), by omega, rfl, by omega, z⟩, fun x H2 y => ?_⟩
      obtain ⟨d, ed, l2, st2, r2⟩ := wk.yields i _ m' H' x H2 l' st' hlt y
      have eds : ds.drop i = d :: ds.drop (i + 1) := by
        rw [List.drop_eq_getElem_cons hlt]
        rw [List.getElem?_eq_getElem hlt] at ed
        rw [Option.some.inj ed]
      rw [eds] at e2
      unfold lcLoop at e2
      cases eg : g d (wipeD μ vs) with
      | none => rw [eg] at e2; cases e2
      | some μ1 =>
        rw [eg] at e2
        dsimp only at e2
        have ew2 : EnvOk T (ρ1 ++ D :: t) H2 (wipeD μ vs) (wipe σ vs) := (ew.le l').le l2
        refine ⟨_, m', wipeD μ vs, d, μ1, st2, ew2, r2, eg, fun σ2 ev2 hsame hlen => ⟨wipe_same (hlen.trans (wipe_length σ vs)) hsl hsame, _, m', μ1, st2, ev2, ?_⟩⟩
        have l3 := l'.trans l2
        cases et : tt μ1 m' with
        | err c fs m3 => rw [et] at e2; cases e2
        | bad => rw [et] at e2; cases e2
        | ok b m3 =>
          rw [et] at e2
          intro ρ3 H3 b' l4 st3 eb
          subst eb
          obtain ⟨t3, rfl, _⟩ := id l4.grow
          have st3' : StOk T (ρ1 ++ D :: (t ++ t3)) m3 H3 := by simpa using st3
          have l5 : Le ρ1 H1 (ρ1 ++ D :: (t ++ t3)) H3 := by simpa using l3.trans l4
          cases b with
          | false => exact ⟨t ++ t3, m3, l5, st3', m2, e2, h2⟩
          | true =>
            refine ⟨_, m3, μ1, st3, ev2.le l4, ?_⟩
            dsimp only at e2
            cases ee : te μ1 m3 with
            | err c fs m4 => rw [ee] at e2; cases e2
            | bad => rw [ee] at e2; cases e2
            | ok y m4 =>
              rw [ee] at e2
              intro ρ4 H4 yv l6 st4 ry
              obtain ⟨t4, rfl, _⟩ := id l6.grow
              have st4' : StOk T (ρ1 ++ D :: (t ++ t3 ++ t4)) m4 H4 := by simpa using st4
              have ry' : Is T (ρ1 ++ D :: (t ++ t3 ++ t4)) H4 y yv := by simpa using ry
              have l7 : Le ρ1 H1 (ρ1 ++ D :: (t ++ t3 ++ t4)) H4 := by simpa using (l3.trans l4).trans l6
              dsimp only at e2
              split at e2
              · rename_i acc ea
                split at e2
                · rename_i hz
                  have hn : (ρ1 ++ D :: (t ++ t3 ++ t4))[m1.length]? = some D := by rw [← st1.len]; simp
                  obtain ⟨xs, hx, rx⟩ := st4'.obs _ D _ hn ea
                  have hput := Le.put (o := .lst (xs ++ [yv])) hx (List.mem_of_getElem? hn)
                  exact ⟨xs, hx, Nat.lt_of_le_of_lt (by rw [← rx.len]; exact hz) (by decide), _, _, l7.trans hput, st4'.put (ob := .lst (acc ++ [y])) hn ⟨_, upd_same, (rx.app (.cons ry' .nil)).le hput⟩, m2, e2, h2⟩
                · cases e2
              · cases e2
    · have e1 : i = ds.length := by omega
      subst e1
      refine .inl ⟨wk.stops _ H' l', ?_⟩
      rw [List.drop_length] at e2
      cases e2
      rw [← st1.len] at h2
      exact take_ok l' st' h2
theorem pd_lc {elt tg iter : Expr} {ifs : List Expr} {scope : Scope} {own : List (Str × Nat)} {sl : List Nat} {f : EL} {g : GD} {tt : EB} {te : E1} (hc : X.calm = true) (hN : X.N.Nodup) (hi : PI X tg iter (TIt T W f)) (ok : blkC X.N X.env.scope scope own = true) (hsl : ∀ i ∈ sl, i ∈ own.map (·.2))
    (hg : ∀ (s : Shared) (H : Hp) (C : Addr) (cl : List (Str × Addr)) (fp : List Addr), PG (X.blk s H scope (compEnvC scope cl C X.env) fp) tg (TGD T g sl)) (ht : ∀ (s : Shared) (H : Hp) (C : Addr) (cl : List (Str × Addr)) (fp : List Addr), PTs (X.blk s H scope (compEnvC scope cl C X.env) fp) ifs (TB T W0 tt))
    (he : ∀ (s : Shared) (H : Hp) (C : Addr) (cl : List (Str × Addr)) (fp : List Addr), PE (X.blk s H scope (compEnvC scope cl C X.env) fp) elt (TD T W0 te)) (hs : ∀ x, foldedSetIterable iter X.env x = pure x := by intro _; rfl) :
    PE X (.ListComp elt [⟨tg, iter, ifs, 0⟩] scope pos) (TD T W (lcE (own.map (·.2)) f g tt te)) := pe_imp (pe_lc hc hN hi (blkOk_by ok) hg ht he hs) (lc_imp hsl)
theorem takes_blk {s : Shared} {H : Hp} {scope : Scope} {cenv : Env} {fp : List Addr} : Takes (X.blk s H scope cenv fp) W0 := fun u s' ⟨a, B, sI, pins, σ, H, cls, d, _, _, _, _, _, _, _, _, q⟩ => q.elim
/-- name = [..], on one line -/
theorem sd_setLc {i : Nat} {y : Str} {py : Pos} {spos : Pos} {elt tg iter : Expr} {ifs : List Expr} {scope : Scope} {own : List (Str × Nat)} {sl : List Nat} {f : EL} {g : GD} {tt : EB} {te : E1} (hc : X.calm = true) (hN : X.N.Nodup) (hy : X.N[i]? = some y) (hyl : X.env.scope.names.lookup y = some .local)
    (hi : PI X tg iter (TIt T W f)) (ok : blkC X.N X.env.scope scope own = true) (hsl : ∀ i ∈ sl, i ∈ own.map (·.2))
    (hg : ∀ (s : Shared) (H : Hp) (C : Addr) (cl : List (Str × Addr)) (fp : List Addr), PG (X.blk s H scope (compEnvC scope cl C X.env) fp) tg (TGD T g sl)) (ht : ∀ (s : Shared) (H : Hp) (C : Addr) (cl : List (Str × Addr)) (fp : List Addr), PTs (X.blk s H scope (compEnvC scope cl C X.env) fp) ifs (TB T W0 tt))
    (he : ∀ (s : Shared) (H : Hp) (C : Addr) (cl : List (Str × Addr)) (fp : List Addr), PE (X.blk s H scope (compEnvC scope cl C X.env) fp) elt (TD T W0 te)) (hsw : swapsWith (.ListComp elt [⟨tg, iter, ifs, 0⟩] scope pos) (some (.Name y py)) spos.line X.env = pure true := by rfl) (hs : ∀ x, foldedSetIterable iter X.env x = pure x := by intro _; rfl) :
    PS X (.Assign [.Name y py] (.ListComp elt [⟨tg, iter, ifs, 0⟩] scope pos) spos) (TDS T W (setS i (lcE (own.map (·.2)) f g tt te))) :=
  ps_imp (ps_setLc hc hN hy hyl hsw hi (blkOk_by ok) hg ht he hs) fun Dn σ H ⟨ρ, m, μ, st, ev, h⟩ => by
    refine lc_imp hsl σ H _ ?_
    obtain ⟨ρ0, m0, μ0, s0, e0, h0⟩ := TD.lift st ev h
    exact ⟨ρ0, m0, μ0, s0, e0, h0.mono (fun v H1 ⟨ρ1, m1, d, l, s, ev1, r, h1⟩ => h1 ρ1 H1 _ (.refl _ _) s (ev1.set r i)) fun _ _ _ z => z⟩
end
end DL
end

section
set_option Elab.async false
set_option maxRecDepth 100000
set_option maxHeartbeats 4000000
set_option linter.all false
/-! D10: exceptions as values, their fields, isinstance; repr. -/
namespace DL
open PySem PySem.Spec PyProof.Rows L2

/-! ### repr -/
def keyP : Key → PyData
  | .inl i => .int i
  | .inr x => .str x
mutual
/-- a value's data, with dicts -/
def pr : D → Option PyData
  | .non => some .none
  | .bl b => some (.bool b)
  | .int i => some (.int i)
  | .str x => some (.str x)
  | .tup xs => (prs xs).map .tuple
  | .lst xs => (prs xs).map .list
  | .dic ks xs => (prs xs).map fun ps => .dict ((ks.map keyP).zip ps)
  | _ => none
def prs : List D → Option (List PyData)
  | [] => some []
  | d :: ds => match pr d, prs ds with
    | some p, some ps => some (p :: ps)
    | _, _ => none
end
theorem reads_keys {h : Heap} : ∀ {es : List DictEntry} {kvs : List (Key × Value)} {P : Program} {w : World}, Pairs (mixKind P w) es kvs → ∃ as, ReadsAll h (es.map (·.key)) (kvs.map fun kv => keyP kv.1) as ∧ sysModules ∉ as
  | _, _, _, _, .nil => ⟨_, .nil, by simp⟩
  | _, _, _, _, .cons (kv := kv) k _ r => by
    obtain ⟨as, h1, h2⟩ := reads_keys r
    obtain ⟨kk, kvv⟩ := kv
    rcases keyIs_shape k with ⟨i, t, e1, e2⟩ | ⟨x, t, e1, e2⟩
    · dsimp only at e1
      subst e1
      exact ⟨[] ++ as, .cons (by have z := Reads.int (h := h) i t; rw [← e2] at z; exact z) h1, by simpa using h2⟩
    · dsimp only at e1
      subst e1
      exact ⟨[] ++ as, .cons (by have z := Reads.str (h := h) x t; rw [← e2] at z; exact z) h1, by simpa using h2⟩
theorem vals_of_pairs {P : Program} {w : World} : ∀ {es : List DictEntry} {kvs : List (Key × Value)}, Pairs (mixKind P w) es kvs → es.map (·.val) = kvs.map (·.2)
  | _, _, .nil => rfl
  | _, _, .cons _ e r => by rw [List.map_cons, List.map_cons, e, vals_of_pairs r]
theorem zip_kv : ∀ {ks : List Key} {xs : List V} {kvs : List (Key × Value)}, ks.length = xs.length → KV (ks.zip xs) kvs → kvs.map (·.1) = ks ∧ Vals xs (kvs.map (·.2))
  | [], [], _, _, .nil => ⟨rfl, .nil⟩
  | k :: ks, x :: xs, _, hl, .cons r t => by
    obtain ⟨a, b⟩ := zip_kv (ks := ks) (xs := xs) (by simpa using hl) t
    exact ⟨by rw [List.map_cons, a]; congr 1; exact r.1.symm, .cons r.2 b⟩
theorem two_cases {d : D} {ds : List D} {ps : List PyData} (e : prs (d :: ds) = some ps) : ∃ p qs, pr d = some p ∧ prs ds = some qs ∧ ps = p :: qs := by
  simp only [prs] at e
  cases e1 : pr d with
  | none => rw [e1] at e; cases e
  | some p =>
    cases e2 : prs ds with
    | none => rw [e1, e2] at e; cases e
    | some qs => rw [e1, e2] at e; cases e; exact ⟨p, qs, rfl, rfl, rfl⟩
theorem prs_len : ∀ {ds : List D} {ps : List PyData}, prs ds = some ps → ps.length = ds.length
  | [], _, e => by simp only [prs] at e; cases e; rfl
  | d :: ds, ps, e => by
    obtain ⟨p, qs, _, e2, rfl⟩ := two_cases e
    rw [List.length_cons, List.length_cons, prs_len e2]
section
variable {P : Program} {w : World} {T : Tab} {ρ : List Addr} {H : Hp} {h : Heap}
mutual
theorem Is.reads (ok : HOk P w H h) (ns : ∀ xs, H sysModules ≠ some (.lst xs)) : ∀ {d : D} {v : V} {u : Value} {p : PyData}, Is T ρ H d v → RelV v u → pr d = some p → ∃ as, Reads h u p as ∧ sysModules ∉ as
  | _, _, _, _, .non, r, e => by simp only [pr] at e; cases e; cases (show _ = Value.none from r); exact ⟨_, .none, by simp⟩
  | _, _, _, _, .bl b, r, e => by simp only [pr] at e; cases e; cases (show _ = Value.bool b from r); exact ⟨_, .bool b, by simp⟩
  | _, _, _, _, .int i, r, e => by simp only [pr] at e; cases e; obtain ⟨t, rfl⟩ := (show ∃ t, _ = Value.int i t from r); exact ⟨_, .int i t, by simp⟩
  | _, _, _, _, .str x, r, e => by simp only [pr] at e; cases e; obtain ⟨t, rfl⟩ := (show ∃ t, _ = Value.str x t from r); exact ⟨_, .str x t, by simp⟩
  | _, _, _, _, .tup (a := a) (ds := ds) hh _ rr, r, e => by
    simp only [pr] at e
    cases q : prs ds with
    | none => rw [q] at e; cases e
    | some ps =>
      rw [q] at e; cases e
      cases (show _ = Value.ref a from r)
      obtain ⟨_, its, rv, o, e1, e2, n, e3⟩ := ok a _ hh
      obtain ⟨as, h1, h2⟩ := Iss.reads ok ns rr rv q
      exact ⟨as, .tuple e1 e2 e3 (by simpa using h1), h2⟩
  | _, _, _, _, .lst (a := a) (ds := ds) hh _ rr, r, e => by
    simp only [pr] at e
    cases q : prs ds with
    | none => rw [q] at e; cases e
    | some ps =>
      rw [q] at e; cases e
      cases (show _ = Value.ref a from r)
      obtain ⟨_, its, n, rv, e1⟩ := ok a _ hh
      obtain ⟨as, h1, h2⟩ := Iss.reads ok ns rr rv q
      refine ⟨a :: as, .list e1 rfl rfl (by simpa using h1), ?_⟩
      rw [List.mem_cons, not_or]
      exact ⟨fun z => ns _ (z ▸ hh), h2⟩
  | _, _, _, _, .dic (a := a) (ks := ks) (xs := xs) (ds := ds) hh _ hl rr, r, e => by
    simp only [pr] at e
    cases q : prs ds with
    | none => rw [q] at e; cases e
    | some ps =>
      rw [q] at e; cases e
      cases (show _ = Value.ref a from r)
      obtain ⟨_, hs, kvs, kv, o, es, ep, e1, e2, e3, _, e4, _⟩ := ok a _ hh
      obtain ⟨z1, z2⟩ := zip_kv (by rw [hl, rr.len]) kv
      obtain ⟨as, h1, h2⟩ := reads_keys (h := h) e4
      obtain ⟨bs, h3, h4⟩ := Iss.reads ok ns rr z2 q
      have k1 : ((ks.map keyP).zip ps).map (·.1) = kvs.map fun kv => keyP kv.1 := by
        rw [List.map_fst_zip (by rw [List.length_map, prs_len q, hl]; exact Nat.le_refl _), ← z1, List.map_map]; rfl
      have k2 : ((ks.map keyP).zip ps).map (·.2) = ps := List.map_snd_zip (by rw [List.length_map, prs_len q, hl]; exact Nat.le_refl _)
      refine ⟨a :: as ++ bs, .dict e1 e2.1 e3 (by rw [k1]; exact h1) (by rw [k2, vals_of_pairs e4]; exact h3), ?_⟩
      simp only [List.cons_append, List.mem_cons, List.mem_append, not_or]
      exact ⟨fun z => by rw [← z] at hs; simp at hs, h2, h4⟩
  | _, _, _, _, .scr .., _, e => by simp only [pr] at e; cases e
  | _, _, _, _, .ref .., _, e => by simp only [pr] at e; cases e
  | _, _, _, _, .con .., _, e => by simp only [pr] at e; cases e
  | _, _, _, _, .exc .., _, e => by simp only [pr] at e; cases e
  | _, _, _, _, .obj .., _, e => by simp only [pr] at e; cases e
  | _, _, _, _, .lam .., _, e => by simp only [pr] at e; cases e
theorem Iss.reads (ok : HOk P w H h) (ns : ∀ xs, H sysModules ≠ some (.lst xs)) : ∀ {ds : List D} {vs : List V} {us : List Value} {ps : List PyData}, Iss T ρ H ds vs → Vals vs us → prs ds = some ps → ∃ as, ReadsAll h us ps as ∧ sysModules ∉ as
  | _, _, _, _, .nil, .nil, e => by simp only [prs] at e; cases e; exact ⟨_, .nil, by simp⟩
  | _, _, _, _, .cons a b, .cons r t, e => by
    obtain ⟨p, qs, e1, e2, rfl⟩ := two_cases e
    obtain ⟨as, h1, h2⟩ := Is.reads ok ns a r e1
    obtain ⟨bs, h3, h4⟩ := Iss.reads ok ns b t e2
    exact ⟨as ++ bs, .cons h1 h3, by simp [h2, h4]⟩
end
end
/-- .. a list of the store too -/
def prM (m : S) : D → Option PyData
  | .ref n => match m[n]? with
    | some (.lst ds) => (prs ds).map .list
    | _ => none
  | d => pr d
/-- what is shown: data, small enough -/
def reprF : CF := fun ds m => match ds with
  | [d] => match prM m d with
    | some p => if PyData.showable p = true ∧ PyData.depth p ≤ 50 ∧ (PyData.shown p).length ≤ cap then (match p with
      | .list _ => .ok (.str (PyData.shown p)) m
      | .tuple _ => .ok (.str (PyData.shown p)) m
      | .dict _ => .ok (.str (PyData.shown p)) m
      | _ => .bad) else .bad
    | none => .bad
  | _ => .bad
section
variable {X : Cx} {T : Tab} {W : WX} {pos : Pos}
theorem prM_reads {ρ : List Addr} {m : S} {H : Hp} {P : Program} {w : World} {h : Heap} (st : StOk T ρ m H) (ok : HOk P w H h) (ns : ∀ xs, H sysModules ≠ some (.lst xs)) {d : D} {v : V} {u : Value} {p : PyData} (r : Is T ρ H d v) (rv : RelV v u) (e : prM m d = some p) : ∃ as, Reads h u p as ∧ sysModules ∉ as := by
  by_cases hd : ∃ n, d = .ref n
  · obtain ⟨n, rfl⟩ := hd
    cases r with
    | @ref _ a hn =>
      cases (show u = Value.ref a from rv)
      simp only [prM] at e
      cases q : m[n]? with
      | none => rw [q] at e; cases e
      | some ob =>
        rw [q] at e
        cases ob with
        | lst ds =>
          simp only at e
          cases q2 : prs ds with
          | none => rw [q2] at e; cases e
          | some ps =>
            rw [q2] at e; cases e
            obtain ⟨a', h1, xs, h2, h3⟩ := st.at q
            rw [hn] at h1; cases h1
            obtain ⟨_, its, k, rv, e1⟩ := ok a _ h2
            obtain ⟨as, r1, r2⟩ := Iss.reads ok ns h3 rv q2
            refine ⟨a :: as, .list e1 rfl rfl (by simpa using r1), ?_⟩
            rw [List.mem_cons, not_or]
            exact ⟨fun z => ns _ (z ▸ h2), r2⟩
        | dic _ _ => cases e
        | ins _ _ => cases e
  · have e2 : pr d = some p := by
      cases d <;> first | exact e | exact absurd ⟨_, rfl⟩ hd
    exact Is.reads ok ns r rv e2
/-- repr(e), e a list, a tuple, a dict -/
theorem pd_repr {e : Expr} {f : EL} {p : Pos} (rg : Rg 8 X.A) (hsys : ∃ o, X.K.lookup sysModules = some o ∧ ∀ vs n, o.data ≠ .seq vs n) (hgl : Gl X "repr") (hm : X.mg "repr" = none) (ha : PA X [e] (TL T W f)) (he : starEach [e] X.env = [(false, eval e X.env)] := by rfl) :
    PE X (.Call (.Name "repr" p) [e] [] pos) (TD T W (callE reprF f)) := ⟨fun pins s σ H Q I h => by
  obtain ⟨ρ, m, μ, st, ev, h⟩ := h
  refine wpAny_Call_Name_kw (ld_blt I hgl hm Boot.«repr» ?_ (by decide) (by decide))
  refine PyProof.Rows.callWith_builtin1 (thn (ha.run pos pins s σ H (fun vs H1 => ∃ ρ1 m1 ds, StOk T ρ1 m1 H1 ∧ Iss T ρ1 H1 ds vs ∧ PoD T ρ1 H1 (reprF ds m1) Q fun c d H' => W c d σ H') I ?_) fun us s1 ⟨vs, H1, I1, r, ρ1, m1, ds, st1, rs, q⟩ => ?_) he rfl
  · obtain ⟨ρ0, m0, μ0, s0, e0, h0⟩ := TL.bind (g := reprF) st ev h
    exact ⟨ρ0, m0, μ0, s0, e0, h0.mono (fun vs H1 ⟨ρ1, m1, ds, l, s, ev1, r1, h1⟩ => ⟨ρ1, m1, ds, s, r1, h1⟩) fun _ _ _ z => z⟩
  · have ns : ∀ xs, H1 sysModules ≠ some (.lst xs) := fun xs z => by
      obtain ⟨o, e1, e2⟩ := hsys
      obtain ⟨_, its, n, _, e3⟩ := I1.hok _ _ z
      have e4 := I1.kIn _ _ e1
      rw [e3] at e4
      cases e4
      exact e2 _ _ rfl
    unfold reprF at q
    split at q
    · rename_i d
      cases rs with
      | @cons _ v _ vs r1 r2 =>
        cases r2
        cases r with
        | @cons _ u _ us ru rn =>
          cases rn
          split at q
          · rename_i pd epd
            split at q
            · rename_i hc
              obtain ⟨as, rd, hs⟩ := prM_reads st1 I1.hok ns r1 ru epd
              have d2 : X.A.units + 16 * 8 + 200 < 9900 := rg.room.un
              have fin : ∀ a, u = .ref a → PoD T ρ1 H1 (.ok (.str (PyData.shown pd)) m1) Q (fun c d H' => W c d σ H') → wpAny (model X.prog X.w) X.A (call (.builtin "repr") [u]) (EP X pins σ Q) X.xe s1 := fun a ea q => by
                subst ea
                refine repr_of_reads' rd hc.1 (fun _ => hs) rg.gd (by show X.A.units + (pd.depth + 1) < 9900; have := hc.2.1; omega) (fun _ _ z => z) (fun h' t tk k => ?_) (cap_line hc.2.2)
                exact ⟨.str (PyData.shown pd), H1, I1.kept k, ⟨_, rfl⟩, q ρ1 H1 _ (.refl _ _) st1 (.str _)⟩
              split at q
              · cases rd with
                | list => exact fin _ rfl q
              · cases rd with
                | tuple => exact fin _ rfl q
              · cases rd with
                | dict => exact fin _ rfl q
              · exact q.elim
            · exact q.elim
          · exact q.elim
    · exact q.elim⟩
end
end DL
end

section
set_option Elab.async false
set_option maxRecDepth 100000
set_option maxHeartbeats 4000000
set_option linter.all false
/-! D11: exceptions as values, their fields, isinstance. -/
namespace DL
open PySem PySem.Spec PyProof.Rows L2

/-- what an exception's class must have for its instances to be asked -/
structure ClsX (K : PySem.W.Frag) (C : Addr) : Prop where
  xf : XfC K C
  cl : (PySem.W.clsIn K C).isSome = true
  ca : PySem.W.findIn K (.ref C) "__class__" = some (some (.builtin "object.__class__"))
  cg : PySem.W.specialIn K (.builtin "object.__class__") "__get__" = some (some (.builtin "getset_descriptor.__get__"))
  ct : PySem.W.takesIn K (.builtin "object.__class__") = some true
  cm : PySem.W.mroIn K C (.type "object") = some true
section
variable {X : Cx} {pins : List (Addr × Obj)} {σ : L2.St} {H : Hp} {s : Shared}
theorem excO_ok {P : Program} {w : World} {H : Hp} {h : Heap} {a C : Addr} {d : Option Addr} {vs : Array Value} (e : h.get? a = some { cls := .ref C, dict := d, data := .fields vs }) : ObjOk P w H h a (ExcO a C d) :=
  ⟨⟨_, vs, e, rfl, rfl, rfl⟩, ⟨_, e⟩, fun h1 h2 ⟨o, vs, z, r⟩ k => ⟨o, vs, k _ z, r⟩⟩
/-- an exception's object as an instance -/
theorem exc_inst {T : Tab} {ρ : List Addr} {c : Nat} {fs : List D} {v : V} (I : Inv X pins σ H s) (r : Is T ρ H (.exc c fs) v) : ∃ a xs, v = .ref a ∧ Iss T ρ H fs xs ∧ ∃ (ox : Obj) (od : Option Obj), PySem.W.InstAt s.heap a ox (T.cls c) od ∧
    ∀ f y, ((T.flds c).zip xs).lookup f = some y → ∃ u, RelV y u ∧ od.bind (fun o => (PySem.W.lookIn f o)) = some (some u) ∧ od.isSome = true := by
  cases r with
  | @exc _ a d xs _ h n rr hl hf =>
    obtain ⟨⟨o, vs, e1, e2, e3, e4⟩, _, _⟩ := I.hok a _ h
    refine ⟨a, xs, rfl, rr, o, ?_⟩
    rcases hf with ⟨hf, rfl⟩ | ⟨dx, rfl, nd, hx⟩
    · exact ⟨none, ⟨e1, e2, by unfold PySem.W.notCls; rw [e4], by rw [e3]; trivial⟩, fun f y z => by rw [hf] at z; cases z⟩
    · obtain ⟨mA, hns, hr⟩ := I.hok dx _ hx
      obtain ⟨od, ho, hlk⟩ := lookIn_ns hns
      refine ⟨some od, ⟨e1, e2, by unfold PySem.W.notCls; rw [e4], by rw [e3]; exact ho⟩, fun f y z => ?_⟩
      obtain ⟨u, hu, ru⟩ := RelO.some_of (v := y) (o := mA f) (by rw [← z]; exact hr f)
      exact ⟨u, ru, by show PySem.W.lookIn f od = _; rw [hlk, hu], rfl⟩
end
section
variable {X : Cx} {T : Tab} {W : WX} {pos p : Pos}
/-! ### e.f -/
theorem zip_get {T : Tab} {ρ : List Addr} {H : Hp} : ∀ {fs : List Str} {ds : List D} {xs : List V} {f : Str} {d : D}, Iss T ρ H ds xs → (fs.zip ds).lookup f = some d → ∃ v, (fs.zip xs).lookup f = some v ∧ Is T ρ H d v
  | [], _, _, _, _, _, e => by cases e
  | g :: fs, _, _, _, _, .nil, e => by cases e
  | g :: fs, _, _, f, d, .cons (v := v) a b, e => by
    simp only [List.zip_cons_cons, List.lookup] at e ⊢
    split at e
    · cases e; rename_i hh; exact ⟨v, rfl, a⟩
    · rename_i hh
      obtain ⟨u, h1, h2⟩ := zip_get (fs := fs) b e
      exact ⟨u, h1, h2⟩
def attrE (T : Tab) (n : Nat) (x : Str) (f : E1) : E1 := fun μ m => (f μ m).bind fun d m1 => match d with
  | .exc c fs => if c < n then (match ((T.flds c).zip fs).lookup x with
    | some v => .ok v m1
    | none => .bad) else .bad
  | _ => .bad
theorem pd_attr {e : Expr} {x : Str} {n : Nat} {f : E1} (cx : ∀ c, c < n → ClsX X.K (T.cls c)) (no : ∀ c, c < n → PySem.W.findIn X.K (.ref (T.cls c)) x = some none) (he : PE X e (TD T W f)) (hb : attributeBase e x X.env (eval e X.env) = eval e X.env := by rfl) : PE X (.Attribute e x pos) (TD T W (attrE T n x f)) := ⟨fun pins s σ H Q I h => by
  obtain ⟨ρ, m, μ, st, ev, h⟩ := h
  refine attr_of hb (thn (he.run pins s σ H _ I (TD.bind (g := fun d m1 => match d with
    | .exc c fs => if c < n then (match ((T.flds c).zip fs).lookup x with
      | some v => R.ok v m1
      | none => .bad) else .bad
    | _ => .bad) st ev h)) fun u s1 ⟨v, H1, I1, ru, ρ1, m1, d, l1, st1, ev1, r1, h1⟩ => ?_)
  split at h1
  · rename_i c fs
    split at h1
    · rename_i hc
      split at h1
      · rename_i y ey
        obtain ⟨a, xs, rfl, rx, ox, od, J, hl⟩ := exc_inst I1 r1
        obtain ⟨z, ez, rz⟩ := zip_get rx ey
        obtain ⟨u2, ru2, e1, e2⟩ := hl x z ez
        obtain rfl : u = Value.ref a := ru
        cases od with
        | none => cases e2
        | some o =>
          have C := cx c hc
          exact HandSPX.exc_get I1.kIn J C.xf.ga C.xf.gg C.xf.exC (PySem.W.findObj_own C.xf.hdC (no c hc) rfl e1) (handed_of ru2) ⟨z, H1, I1.tok _, ru2, h1 ρ1 H1 z (.refl _ _) st1 rz⟩
      · exact h1.elim
    · exact h1.elim
  · exact h1.elim⟩

/-! ### isinstance -/
def cvE (a b : V) : Bool := match a, b with
  | .ty x, .ty y => x == y
  | .ref x, .ref y => x == y
  | _, _ => false
theorem cvE_eq {a b : V} (h : cvE a b = true) : a = b := by
  unfold cvE at h
  split at h
  · rw [beq_iff_eq.mp h]
  · rw [beq_iff_eq.mp h]
  · cases h
def datSub (a : String) (cv : V) : Bool := match cv with
  | .ty b => subTy a b
  | _ => false
structure IsiOk (K : PySem.W.Frag) (T : Tab) (n : Nat) (cs : List V) (sups : Nat → List V) : Prop where
  own : ∀ c, c < n → ∀ cv ∈ cs, ∃ u, ClsV cv u ∧ PySem.W.kitOne K (.ref (T.cls c)) u = some ((sups c).any (cvE cv))
  dat : ∀ a ∈ tyNames, ∀ cv ∈ cs, ∃ u, ClsV cv u ∧ PySem.W.kitOne K (.type a) u = some (datSub a cv)
def isiG (n : Nat) (cs : List V) (sups : Nat → List V) : CF := fun ds m => match ds with
  | [d, .con cv] => if cs.any (cvE cv) = true then (match d with
    | .exc c _ => if c < n then .ok (.bl ((sups c).any (cvE cv))) m else .bad
    | d => match tyOf m d with
      | some a => if tyNames.contains a then .ok (.bl (datSub a cv)) m else .bad
      | none => .bad) else .bad
  | _ => .bad
theorem pd_isi {a b : Expr} {n : Nat} {cs : List V} {sups : Nat → List V} {f : EL} (cx : ∀ c, c < n → ClsX X.K (T.cls c)) (ok : IsiOk X.K T n cs sups) (hgl : Gl X "isinstance") (hm : X.mg "isinstance" = none) (ha : PA X [a, b] (TL T W f))
    (he : starEach [a, b] X.env = (false, eval a X.env) :: starEach [b] X.env := by rfl) (hpl : (backTo pos (starEach [b] X.env)).any (·.1) = false := by rfl) :
    PE X (.Call (.Name "isinstance" p) [a, b] [] pos) (TD T W (callE (isiG n cs sups) f)) := ⟨fun pins s σ H Q I h => by
  obtain ⟨ρ, m, μ, st, ev, h⟩ := h
  refine wpAny_Call_Name_kw (ld_blt I hgl hm Boot.«isinstance» ?_ (by decide) (by decide))
  refine PyProof.Rows.callWith_builtin1 (thn (ha.run pos pins s σ H (fun vs H1 => ∃ ρ1 m1 ds, StOk T ρ1 m1 H1 ∧ Iss T ρ1 H1 ds vs ∧ PoD T ρ1 H1 (isiG n cs sups ds m1) Q fun c d H' => W c d σ H') I ?_) fun us s1 ⟨vs, H1, I1, r, ρ1, m1, ds, st1, rs, q⟩ => ?_) he hpl
  · obtain ⟨ρ0, m0, μ0, s0, e0, h0⟩ := TL.bind (g := isiG n cs sups) st ev h
    exact ⟨ρ0, m0, μ0, s0, e0, h0.mono (fun vs H1 ⟨ρ1, m1, ds, l, s, ev1, r1, h1⟩ => ⟨ρ1, m1, ds, s, r1, h1⟩) fun _ _ _ z => z⟩
  · unfold isiG at q
    split at q
    · rename_i d cv
      split at q
      · rename_i hc
        obtain ⟨cv', hm', e1⟩ := List.any_eq_true.mp hc
        have e2 := cvE_eq e1
        subst e2
        cases rs with
        | @cons _ v _ vs r1 r2 => cases r2 with
          | @cons _ v2 _ vs r2 r3 =>
            cases r3; cases r2
            split at q
            · rename_i c fs
              split at q
              · rename_i hc
                obtain ⟨a, xs, rfl, rx, ox, od, J, _⟩ := exc_inst I1 r1
                obtain ⟨u1, u2, rfl, q1, q2⟩ := Vals.two r
                obtain rfl : u1 = Value.ref a := q1
                obtain ⟨u, k, e⟩ := ok.own c hc cv hm'
                have e4 := k.eq q2
                subst e4
                have C := cx c hc
                exact PySem.W.kia_one (PySem.W.kitx_exc (ox := ox) (od := od) C.cl C.xf.ga C.xf.gg C.xf.exC C.ca C.cg C.ct C.cm) I1.kIn J e (fun z => nomatch z) fun tk => ⟨.bl _, H1, I1.tok tk, rfl, q ρ1 H1 _ (.refl _ _) st1 (.bl _)⟩
              · exact q.elim
            · split at q
              · rename_i a e
                split at q
                · rename_i ht
                  obtain ⟨u, k, e3⟩ := ok.dat a (List.contains_iff_mem.mp ht) cv hm'
                  exact call_isi pins s1 σ H1 _ us Q I1 r ⟨_, _, _, _, _, rfl, k, tyOf_is st1 r1 e, e3, q ρ1 H1 _ (.refl _ _) st1 (.bl _)⟩
                · exact q.elim
              · exact q.elim
      · exact q.elim
    · exact q.elim⟩

/-! ### C(e), as a value -/
def mkE (c : Nat) (f : E1) : E1 := fun μ m => (f μ m).bind fun d m1 => .ok (.exc c [d]) m1
theorem made_val {h' : Heap} {tk : Tok} {C e : Addr} {f : Str} {u : Value} {v : V} {pins : List (Addr × Obj)} {σ : L2.St} {H : Hp} {s : Shared} (I : Inv X pins σ H s) (M : Made1 s.heap h' C f u e) (r : RelV v u) :
    ∃ dx, H dx = none ∧ H e = none ∧ dx ≠ e ∧ Inv X pins σ (upd (upd H dx (.xd [(f, v)])) e (ExcO e C (some dx))) { s with heap := h', toks := tk } := by
  obtain ⟨k, out, dx, vs, he, hv, hd, ne, hns⟩ := M
  have hnd : H dx = none := out_free I.hok hd
  have hne : H e = none := out_free I.hok out
  have I1 := I.laidN (t' := tk) (o := .xd [(f, v)]) k hd hnd ⟨_, hns, fun g => by
      by_cases hg : g = f
      · subst hg; simp [List.lookup]; exact r
      · have : (g == f) = false := by simpa using hg
        simp [List.lookup, this, hg]; trivial⟩
  have hne2 : upd H dx (.xd [(f, v)]) e = none := by rw [upd_ne (Ne.symm ne)]; exact hne
  refine ⟨dx, hnd, hne, ne, ?_⟩
  have J := I.un (t' := tk) (h' := h') (H' := upd (upd H dx (.xd [(f, v)])) e (ExcO e C (some dx))) {
    keep := fun b o z _ _ _ => k b o z
    slot := fun b o z _ _ _ => ⟨o.slots, k b o z⟩
    free := fun b o z n _ => by rw [upd_ne (fun q => by rw [q, out] at z; cases z), upd_ne (fun q => by rw [q, hd] at z; cases z)]; exact n
    there := fun b o z _ => ⟨o, k b o z⟩
    tups := fun b xs z => by rw [upd_ne (ne_of_none z hne), upd_ne (ne_of_none z hnd)]; exact z
    frzs := fun b o y z => by rw [upd_ne (ne_of_none z hne), upd_ne (ne_of_none z hnd)]; exact z
    tbls := fun b ps z => ⟨#[], by rw [upd_ne (ne_of_none z hne), upd_ne (ne_of_none z hnd), z]; simp⟩ } (I1.hok.laidN (fun b u z => z) hne2 (excO_ok he))
  exact J
theorem pd_mk {C : Addr} {c : Nat} {fd x : Str} {e : Expr} {f : E1} (mk : MakeOk X.prog X.w X.base C fd) (rg : Rg 5 X.A) (kp : PySem.W.keepIn X.K (.ref C) = true) (hc : T.cls c = C) (hf : T.flds c = [fd]) (hg : Gl X x) (hm : X.mg x = some (.ref C))
    (he : PE X e (TD T W f)) (hdb : (x == ("__debug__" : Str)) = false := by decide) (hst : starEach [e] X.env = [(false, eval e X.env)] := by rfl) : PE X (.Call (.Name x p) [e] [] pos) (TD T W (mkE c f)) := ⟨fun pins s σ H Q I h => by
  obtain ⟨ρ, m, μ, st, ev, h⟩ := h
  refine wpAny_Call_Name_kw (ld_glob I hg hm ?_ hdb)
  refine PySem.W.callWith_K (h₀ := X.base) I.ok.mod.kin kp (thn ((pa_cons he pa_nil hst).run pos pins s σ H (fun vs H1 => ∃ v ρ1 m1 d, vs = [v] ∧ StOk T ρ1 m1 H1 ∧ Is T ρ1 H1 d v ∧ PoD T ρ1 H1 (.ok (.exc c [d]) m1) Q fun c d H' => W c d σ H') I ?_) fun us s1 ⟨vs, H1, I1, r, v, ρ1, m1, d, e1, st1, r1, q⟩ => ⟨I1.kIn, ?_⟩) hst rfl
  · obtain ⟨ρ0, m0, μ0, s0, e0, h0⟩ := TD.bind (f := f) (g := fun d m1 => R.ok (D.exc c [d]) m1) st ev h
    exact ⟨ρ0, m0, μ0, s0, e0, h0.mono (fun v H1 ⟨ρ1, m1, d, l, s, ev1, r1, h1⟩ => ⟨v, ρ1, m1, d, rfl, s, r1, h1⟩) fun _ _ _ z => z⟩
  · subst e1
    cases r with
    | @cons _ u _ us ru ru' =>
      cases ru'
      have go := mk s1 X.stack u I1.bk
      refine fun Γ p hΓ => wpAny_mono (Q' := EP X pins σ Q) (E' := X.xe) go (fun w s2 hw => ?_) (fun _ _ z => z.elim) Γ p (room_in rg I1.ok.frames hΓ)
      obtain ⟨a, h', tk', rfl, rfl, M⟩ := hw
      obtain ⟨dx, n1, n2, ne, J⟩ := made_val (tk := tk') I1 M ru
      have n3 : upd H1 dx (.xd [(fd, v)]) a = none := by rw [upd_ne (Ne.symm ne)]; exact n2
      have l1 : Le ρ1 H1 ρ1 (upd H1 dx (.xd [(fd, v)])) := .new n1
      have s2 := (st1.new (o := .xd [(fd, v)]) n1).new (o := ExcO a C (some dx)) n3
      have l2 := l1.trans (.new (o := ExcO a C (some dx)) n3)
      refine ⟨.ref a, _, J, rfl, q ρ1 _ (.ref a) l2 s2 (.exc (d := some dx) (xs := [v]) (by rw [upd_same, hc]) (st1.free n2) (.cons (r1.le l2) .nil) (by rw [hf]; rfl) (.inr ⟨dx, rfl, st1.free n1, ?_⟩))⟩
      rw [upd_ne ne, upd_same, hf]; rfl⟩
end
end DL
end

section
set_option Elab.async false
set_option maxRecDepth 100000
set_option maxHeartbeats 4000000
set_option linter.all false
/-! D12: defs by the function of their body, calls with keywords, the law's end. -/
namespace DL
open PySem PySem.Spec PyProof.Rows L2

/-! ### calls with keywords alone -/
def pick {α : Type} (idx : List Nat) (xs : List α) : List α := idx.filterMap fun i => xs[i]?
theorem Iss.pick {T : Tab} {ρ : List Addr} {H : Hp} {ds : List D} {vs : List V} (r : Iss T ρ H ds vs) : ∀ idx : List Nat, Iss T ρ H (pick idx ds) (pick idx vs)
  | [] => .nil
  | i :: idx => by
    have t := Iss.pick r idx
    unfold DL.pick at t ⊢
    cases e : ds[i]? with
    | some d =>
      obtain ⟨v, h1, h2⟩ := r.get e
      rw [List.filterMap_cons_some e, List.filterMap_cons_some h1]
      exact .cons h2 t
    | none =>
      have e2 : vs[i]? = none := by rw [List.getElem?_eq_none_iff, ← r.len]; exact List.getElem?_eq_none_iff.mp e
      rw [List.filterMap_cons_none e, List.filterMap_cons_none e2]
      exact t
theorem vals_pick {vs : List V} {us : List Value} (r : Vals vs us) : ∀ idx : List Nat, Vals (pick idx vs) (pick idx us)
  | [] => .nil
  | i :: idx => by
    have t := vals_pick r idx
    unfold DL.pick at t ⊢
    cases e : vs[i]? with
    | some d =>
      obtain ⟨v, h1, h2⟩ := r.get e
      rw [List.filterMap_cons_some e, List.filterMap_cons_some h1]
      exact .cons h2 t
    | none =>
      have e2 : us[i]? = none := by rw [List.getElem?_eq_none_iff, ← r.length]; exact List.getElem?_eq_none_iff.mp e
      rw [List.filterMap_cons_none e, List.filterMap_cons_none e2]
      exact t
section
variable {X : Cx} {T : Tab} {W : WX} {pos p kpos : Pos}
theorem pk_imp {e : List Keyword} {t t' : TA} (h : PK X e t) (w : ∀ σ H Q, t' σ H Q → t σ H Q) : PK X e t' := ⟨fun pos pins s σ H Q I q => h.run pos pins s σ H Q I (w σ H Q q)⟩
theorem kd_nil : PK X [] (TL T W nilL) := pk_imp pk_nil fun σ H Q ⟨ρ, m, μ, st, ev, h⟩ => h ρ H [] (.refl _ _) st .nil
theorem kd_cons {nm : Option Str} {e : Expr} {es : List Keyword} {f : E1} {g : EL} (he : PE X e (TD T W f)) (hr : PK X es (TL T W g)) : PK X (⟨nm, e, kpos⟩ :: es) (TL T W (consL f g)) :=
  pk_imp (pk_cons he hr) fun σ H Q ⟨ρ, m, μ, st, ev, h⟩ => by
    obtain ⟨ρ0, m0, μ0, s0, e0, h0⟩ := TD.bind (g := fun d m1 => (g μ m1).bind fun ds m2 => .ok (d :: ds) m2) st ev h
    refine ⟨ρ0, m0, μ0, s0, e0, h0.mono (fun v H1 ⟨ρ1, m1, d, l1, st1, ev1, r1, h1⟩ => ?_) fun _ _ _ z => z⟩
    obtain ⟨ρ0, m0, μ0, s0, e0, h0⟩ := TL.bind (g := fun ds m2 => .ok (d :: ds) m2) st1 ev1 h1
    exact ⟨ρ0, m0, μ0, s0, e0, h0.mono (fun w H2 ⟨ρ2, m2, d2, l2, st2, ev2, r2, h2⟩ => h2 ρ2 H2 (v :: w) (.refl _ _) st2 (.cons (r1.le l2) r2)) fun _ _ _ z => z⟩
def callK (F : FD) (idx : List Nat) (f : EL) : E1 := fun μ m => (f μ m).bind fun ds m1 => F (pick idx ds) m1
variable {k : Nat} {f : Addr} {fd : FuncData} {ps ks : List Str} {F : FD}
theorem pd_callK {x : Str} {kws : List Keyword} {fL : EL} {idx : List Nat} (G : FnG X.prog X.w X.K X.mg X.base k f fd ps (spD T ps.length F)) (rg : Rg k X.A) (tk : Takes X W) (hg : Gl X x) (hm : X.mg x = some (.ref f)) (kp : PySem.W.keepIn X.K (.ref f) = true)
    (hb : ∀ ws : List Value, ws.length = ks.length → bindArgs fd ⟨[], ks.zip ws⟩ = pure (ps.zip (pick idx ws))) (hi : ∀ n, n = ks.length → ∀ (ws : List V), ws.length = n → (pick idx ws).length = ps.length) (ha : PK X kws (TL T W fL)) (len : ∀ μ m ds m', fL μ m = .ok ds m' → ds.length = ks.length)
    (hall : (backToKw pos (keywordEach kws X.env)).all (·.1.isSome) = true := by rfl) (hks : (backToKw pos (keywordEach kws X.env)).filterMap (·.1) = ks := by rfl)
    (hdb : (x == ("__debug__" : Str)) = false := by decide) (hpl : ((backTo pos (starEach [] X.env)).any (·.1) || (backToKw pos (keywordEach kws X.env)).any (·.1.isNone)) = false := by rfl) :
    PE X (.Call (.Name x p) [] kws pos) (TD T W (callK F idx fL)) := ⟨fun pins s σ H Q I h => by
  obtain ⟨ρ, m, μ, st, ev, h⟩ := h
  refine wpAny_Call_Name_kw (ld_glob I hg hm ?_ hdb)
  refine PySem.W.callWith_KW0 (h₀ := X.base) I.ok.mod.kin kp hall (thn (ha.run pos pins s σ H (fun vs H1 => vs.length = ks.length ∧ spD T ps.length F (pick idx vs) H1 Q (WE W σ)) I ?_) fun us s1 ⟨vs, H1, I1, r, hl, q⟩ => ⟨I1.kIn, ?_⟩) hpl
  · refine ⟨ρ, m, μ, st, ev, ?_⟩
    unfold callK at h
    cases e1 : fL μ m with
    | ok ds m1 =>
      rw [e1] at h
      intro ρ1 H1 vs l s1 r
      have hl := len _ _ _ _ e1
      have hv : vs.length = ks.length := by rw [← r.len]; exact hl
      exact ⟨hv, hi _ rfl vs hv, ρ1, m1, pick idx ds, s1, r.pick idx, Po.le h l⟩
    | err c fs m1 => rw [e1] at h; exact h
    | bad => rw [e1] at h; exact h
  · rw [hks]
    exact run_g (ks := ks) G rg tk (BindsTo.of_eq (hb us (by rw [← r.length]; exact hl))) I1 (vals_pick r idx) q⟩
end

/-! ### a def by the function of its body -/
def runF (n : Nat) (F : ST) : FD := fun ds m => match F (ds.map some ++ List.replicate (n - ds.length) none) m with
  | .ret d m' => .ok d m'
  | .nx _ m' => .ok .non m'
  | .err c fs _ m' => .err c fs m'
  | _ => .bad
abbrev WF (E : XK) : WX := fun c d _ H => E c d H
theorem start_env {T : Tab} {ρ : List Addr} {H : Hp} {N : List Str} {ds : List D} {vs : List V} (r : Iss T ρ H ds vs) : EnvOk T ρ H (ds.map some ++ List.replicate (N.length - ds.length) none) (L2.start N vs) where
  len := by unfold L2.start; simp [r.len]
  val := fun i d e => by
    unfold L2.start
    by_cases hi : i < ds.length
    · rw [List.getElem?_append_left (by simpa using hi), List.getElem?_map] at e
      cases q : ds[i]? with
      | none => rw [q] at e; cases e
      | some d' =>
        rw [q] at e
        cases e
        obtain ⟨v, h1, h2⟩ := r.get q
        exact ⟨v, by rw [List.getElem?_append_left (by rw [List.length_map, ← r.len]; exact hi), List.getElem?_map, h1]; rfl, h2⟩
    · rw [List.getElem?_append_right (by simpa using hi), List.getElem?_replicate] at e
      split at e <;> cases e
theorem fn_d {P : Program} {w : World} {K : PySem.W.Frag} {mg : Str → Option Value} {base : Heap} {k : Nat} {f : Addr} {name qual : Str} {params : Arguments} {body : List Stmt} {scope : Scope} {dV kV doc pm cdv ct oc : Value} {an od : Option Addr} {osl : Array (Option Value)} {N ps : List Str} {T : Tab} {F : ST}
    (lk : K.lookup f = some ⟨oc, od, .func (PySem.W.fnOf name qual params body scope dV kV doc pm an cdv ct), osl⟩) (hcd : PySem.W.codeIn K cdv qual = true) (sc : FnScope N ps scope)
    (hb : ∀ (A : Around) (outer : List Env) (s : Shared) (H : Hp) (E : XK), Rg k (A.deeper (envOfC qual scope s.heap.objs.size f cdv)) → Takes (cxOf (L2.CX P w) P w K mg base N qual scope f cdv A outer s H E) (WF E) →
      PassesOwn (model P w) (A.deeper (envOfC qual scope s.heap.objs.size f cdv)) (envOfC qual scope s.heap.objs.size f cdv) (cxOf (L2.CX P w) P w K mg base N qual scope f cdv A outer s H E).xe →
      PSs (cxOf (L2.CX P w) P w K mg base N qual scope f cdv A outer s H E) body (TDS T (WF E) F)) :
    FnG P w K mg base (k + 1) f (PySem.W.fnOf name qual params body scope dV kV doc pm an cdv ct) ps (spD T ps.length (runF N.length F)) :=
  fn_g lk hcd sc (fun vs H Q E z => z.1) fun A outer s H vs Q E rg ⟨hl, ρ, m, ds, st, r, h⟩ => by
    refine ⟨_, hb A outer s H E rg (takes_of rfl rfl rfl rfl) (passes_of rfl), ρ, m, _, st, start_env r, ?_⟩
    unfold runF at h
    cases e : F (ds.map some ++ List.replicate (N.length - ds.length) none) m with
    | nx μ' m' => rw [e] at h; exact fun ρ' H' σ' l s _ => h ρ' H' .non l s .non
    | ret d m' => rw [e] at h; exact h
    | bk μ' m' => rw [e] at h; exact h.elim
    | ct μ' m' => rw [e] at h; exact h.elim
    | err c fs μ' m' => rw [e] at h; exact fun ρ' H' σ' cls d l s _ x => h ρ' H' cls d l s x
    | bad => rw [e] at h; exact h.elim

/-! ### the law's end -/
theorem ints_iss {T : Tab} {ρ : List Addr} {H : Hp} : ∀ ns : List Int, Iss T ρ H (ns.map .int) (ns.map V.int)
  | [] => .nil
  | n :: ns => .cons (.int n) (ints_iss ns)
theorem law_g {P : Program} {w : World} {K : PySem.W.Frag} {mg mb : Str → Option Value} {k : Nat} {fa a : Addr} {cs : List (Addr × Addr)} {x : Str} {T : Tab} {F : FD} {s₁ : Shared} {vs : List Value} {ns : List Int}
    (KX : K.In s₁.heap) (gl : s₁.heap.Ns mainGlobals mg) (bl : s₁.heap.Ns builtinsNs mb) (boot : ∀ x : Str, x ≠ "__name__" → mb x = bootBuiltins x) (lim : s₁.heap.NoLimit) (noG : s₁.gens = #[])
    (emp : ∀ p ∈ cs, s₁.heap.get? p.2 = some { cls := .none, data := .fields #[] }) (out : ∀ p ∈ cs, K.lookup p.2 = none) (hd : ∀ p ∈ cs, PySem.W.CodeHd s₁.heap p.1 p.2)
    (bm : ∃ (bm : Addr) (ob : Obj), mg "__builtins__" = some (.ref bm) ∧ bm ≠ builtinsNs ∧ s₁.heap.get? bm = some ob ∧ ob.cls = .type "module" ∧ ob.dict = some builtinsNs ∧ ob.data = .plain)
    (own : s₁.heap.get? a = some { cls := .type "list", data := .seq vs.toArray }) (iv : IntsAre vs ns) (small : ns.length ≤ sizeLine) (room : Rg k callerA) (noL : ∀ o, K.lookup a = some o → o.cls ≠ .type "list")
    (fn : ∀ base : Heap, L2.Mod K mg base → (∀ p ∈ cs, LamX.TabB base mg p.1 p.2) → ∃ fd, FnG P w K mg base k fa fd [x] (spD T 1 F) ∧ Binds K fd [x] [])
    (tabs : ∀ q ∈ T.tabs, ∃ p ∈ cs, p.2 = q.1) (holds : ∃ m, F [.scr (ns.map .int)] [] = .ok (.bl true) m) :
    codeAny (model P w) callerA (.call (.ref fa) ⟨[.ref a], []⟩) (fun r s' => r = .ok (.ret (.bool true)) ∧ OldK s₁.heap s'.heap ∧ s'.os = s₁.os ∧ AllBare s'.gens) s₁ := by
  have kv := vals_ints iv
  -- the tables' places
  generalize hS : cs.map (·.2) = S
  have tabAt : ∀ b ∈ S, s₁.heap.get? b = some { cls := .none, data := .fields #[] } ∧ K.lookup b = none := fun b hb => by
    rw [← hS] at hb
    obtain ⟨p, hp, e⟩ := List.mem_map.mp hb
    exact e ▸ ⟨emp p hp, out p hp⟩
  have aS : a ∉ S := fun z => by have q := (tabAt a z).1; rw [own] at q; cases q
  have aK : K.lookup a = none := by
    cases q : K.lookup a with
    | none => rfl
    | some o => have z := KX a o q; rw [own] at z; cases z; exact absurd rfl (noL _ q)
  -- the abstract heap: the script, the tables
  let H : Hp := fun b => if b = a then some (.frz { cls := .type "list", data := .seq vs.toArray } (.lst (ns.map V.int))) else if b ∈ S then some (.tbl #[]) else none
  have Ha : H a = some (.frz { cls := .type "list", data := .seq vs.toArray } (.lst (ns.map V.int))) := if_pos rfl
  have Ht : ∀ b ∈ S, H b = some (.tbl #[]) := fun b hb => (if_neg (show ¬ b = a from fun z => aS (by rw [← z]; exact hb))).trans (if_pos hb)
  have Hn : ∀ b, b ≠ a → b ∉ S → H b = none := fun b h1 h2 => (if_neg h1).trans (if_neg h2)
  have ok : HOk P w H s₁.heap := fun b u z => by
    by_cases h1 : b = a
    · subst h1; rw [Ha] at z; cases z
      exact ⟨own, by rw [List.length_map]; exact small, vs, _, kv, own⟩
    · by_cases h2 : b ∈ S
      · rw [Ht b h2] at z; cases z; exact (tabAt b h2).1
      · rw [Hn b h1 h2] at z; cases z
  -- what is neither stays in sight
  have seen : ∀ {b : Addr} {o : Obj}, s₁.heap.get? b = some o → (∀ us n, o.data ≠ .seq us n) → o.data ≠ .fields #[] → (hidT s₁.heap H).get? b = some o := fun {b o} e h1 h2 =>
    hidT_get e (Hn b (fun z => by rw [z, own] at e; cases e; exact h1 _ _ rfl) fun z => by rw [(tabAt b z).1] at e; cases e; exact h2 rfl)
  have dict : ∀ {b : Addr} {m : Str → Option Value}, s₁.heap.Ns b m → (hidT s₁.heap H).Ns b m := fun {b m} ⟨o, es, ep, e, d, r⟩ => ⟨o, es, ep, seen e (fun us n z => by rw [d] at z; cases z) (fun z => by rw [d] at z; cases z), d, r⟩
  have kin : K.In (hidT s₁.heap H) := fun b o e => hidT_get (KX b o e) (Hn b (fun z => by rw [z, aK] at e; cases e) fun z => by rw [(tabAt b z).2] at e; cases e)
  have md : L2.Mod K mg (hidT s₁.heap H) := ⟨kin, dict gl, ⟨mb, dict bl, boot⟩, let ⟨mc, h1, h2⟩ := lim; ⟨mc, dict h1, h2⟩⟩
  have tb : ∀ p ∈ cs, LamX.TabB (hidT s₁.heap H) mg p.1 p.2 := fun p hp => by
    have pS : p.2 ∈ S := hS ▸ List.mem_map.mpr ⟨p, hp, rfl⟩
    have g0 : mainGlobals ≠ p.2 := fun z => by
      obtain ⟨o, es, ep, e, d, _⟩ := gl
      rw [z, emp p hp] at e; cases e; cases d
    refine ⟨?_, ?_, g0⟩
    · obtain ⟨o, us, f1, f2, f3, f4, f5, f6, f7, e1, r1, r2, r3, rest⟩ := hd p hp
      exact ⟨o, us, f1, f2, f3, f4, f5, f6, f7, seen e1 (fun vs n z => by rw [r2] at z; cases z) (fun z => by rw [r2] at z; cases z; simp at r3), r1, r2, r3, rest⟩
    · obtain ⟨bm, ob, b1, b2, b3, b4, b5, b6⟩ := bm
      refine ⟨bm, ob, b1, b2, fun z => ?_, fun z => ?_, seen b3 (fun vs n z => by rw [b6] at z; cases z) (fun z => by rw [b6] at z; cases z), b4, b5, b6⟩
      · obtain ⟨o, es, ep, e, d, _⟩ := gl
        rw [z, e] at b3; cases b3; rw [d] at b6; cases b6
      · rw [z, emp p hp] at b3; cases b3; cases b6
  have e0 : Env0 P w K mg (hidT s₁.heap H) callerA [] s₁ H := ⟨rfl, md, fun b o e => of_hidT e, Nat.le_of_eq (hidT_size _ _), trivial, fun b hb => absurd (show b ∈ ([] : List Addr) from hb) (by simp), ok, .of_eq noG⟩
  obtain ⟨mE, hF⟩ := holds
  have st : StOk T [] [] H := ⟨rfl, List.nodup_nil, fun n b ob e _ => by simp at e, fun q hq => by
    obtain ⟨p, hp, e⟩ := tabs q hq
    exact .nil (Ht _ (hS ▸ List.mem_map.mpr ⟨p, hp, e⟩))⟩
  have sp : spD T 1 F [V.ref a] H (fun v _ => v = .bl true) fun _ _ _ => False := by
    refine ⟨rfl, [], [], [.scr (ns.map .int)], st, .cons (.scr Ha (by simp) ?_) .nil, ?_⟩
    · exact ints_iss ns
    · rw [hF]
      exact fun ρ' H' b _ _ r => r.bl_inv
  obtain ⟨fd, G, hb⟩ := fn _ md tb
  refine codeAny_mono (G.run callerA [] s₁ H ⟨[.ref a], []⟩ [.ref a] [.ref a] _ _ room e0 (hb s₁ [.ref a] KX rfl) (.cons rfl .nil) sp) fun r s' h => ?_
  cases r with
  | error e => obtain ⟨_, _, _, _, _, _, _, _, _, _, _, _, z⟩ := h; exact z.elim
  | ok fl => cases fl with
    | next => exact h.elim
    | brk => exact h.elim
    | cont => exact h.elim
    | ret u =>
      obtain ⟨v, H', os, bare, un, ok', rv, q⟩ := h
      subst q
      obtain rfl : u = Value.bool true := rv
      have stay : ∀ b o, b ∉ S → s₁.heap.get? b = some o → s'.heap.get? b = some o := fun b o hb e => by
        by_cases h1 : b = a
        · subst h1
          obtain ⟨e2, _⟩ := ok' b _ (un.frzs b _ _ Ha)
          rw [own] at e; cases e; exact e2
        · exact un.keep b o e (Hn b h1 hb) (by intro z; exact absurd (show b ∈ ([] : List Addr) from z) (by simp)) (by simp)
      have more : ∀ p ∈ cs, ∃ us : Array Value, s'.heap.get? p.2 = some { cls := .none, data := .fields us } := fun p hp => by
        obtain ⟨us, z⟩ := un.tbls p.2 #[] (Ht _ (hS ▸ List.mem_map.mpr ⟨p, hp, rfl⟩))
        exact ⟨_, ok' p.2 _ z⟩
      refine ⟨rfl, ⟨fun b o e => ?_, fun b o e => ?_⟩, os, bare⟩
      · by_cases hb : b ∈ S
        · have hb' := hb
          rw [← hS] at hb'
          obtain ⟨p, hp, ep⟩ := List.mem_map.mp hb'
          obtain ⟨us, hm⟩ := more p hp
          rw [← ep] at e ⊢
          rw [emp p hp] at e; cases e
          exact .inr (.inl ⟨((hd p hp).tab (emp p hp)).isCodeTable, rfl, #[], us, rfl, by rw [Array.empty_append]; exact hm⟩)
        · exact .inl (stay b o hb e)
      · by_cases hb : b ∈ S
        · rw [← hS] at hb
          obtain ⟨p, hp, ep⟩ := List.mem_map.mp hb
          obtain ⟨us, hm⟩ := more p hp
          exact ⟨_, ep ▸ hm⟩
        · exact ⟨o, stay b o hb e⟩
end DL
end

section
set_option Elab.async false
set_option maxRecDepth 100000
set_option maxHeartbeats 4000000
set_option linter.all false
/-! D13: enumerate; defs by name; short forms. -/
namespace DL
open PySem PySem.Spec PyProof.Rows L2
section
variable {X : Cx} {T : Tab} {W : WX} {pos p : Pos}
def enumG (n : Nat) : List D → List D
  | [] => []
  | d :: ds => .tup [.int (n : Nat), d] :: enumG (n + 1) ds
abbrev enumD (ds : List D) : List D := enumG 0 ds
theorem enumG_get : ∀ {ds : List D} {n i : Nat} {d : D}, ds[i]? = some d → (enumG n ds)[i]? = some (.tup [.int ((n + i : Nat) : Int), d])
  | [], _, _, _, h => by simp at h
  | _ :: _, _, 0, _, h => by simp at h; subst h; rfl
  | _ :: ds, n, i + 1, d, h => by
    have := enumG_get (ds := ds) (n := n + 1) (i := i) (d := d) (by simpa using h)
    rw [show n + 1 + i = n + (i + 1) by omega] at this
    simpa [enumG] using this
theorem enumD_get {ds : List D} {i : Nat} {d : D} (h : ds[i]? = some d) : (enumD ds)[i]? = some (.tup [.int (i : Nat), d]) := by
  have := enumG_get (n := 0) h
  rwa [Nat.zero_add] at this
theorem enumG_len : ∀ (ds : List D) (n : Nat), (enumG n ds).length = ds.length
  | [], _ => rfl
  | _ :: ds, n => by rw [enumG, List.length_cons, List.length_cons, enumG_len ds]
theorem enumD_len (ds : List D) : (enumD ds).length = ds.length := enumG_len ds 0
theorem wk_enum {K : PySem.W.Frag} {ρ : List Addr} {H : Hp} {a : Addr} {xs : List V} {ds : List D} (h : Rd H a (.lst xs)) (n : a ∉ ρ) (r : Iss T ρ H ds xs) : WkD T (Ite K a) (enumD ds) ρ H where
  goes := fun i ρ1 H1 l hi => (walk_enum (K := K) (xs := xs)).goes i H1 (by rw [← r.len, ← enumD_len]; exact hi) (.inl (l.rdl h n))
  stops := fun ρ1 H1 l => by rw [enumD_len, r.len]; exact (walk_enum (K := K) (xs := xs)).stops H1 (.inl (l.rdl h n))
  yields := fun i ρ1 m H1 x H' l st hi y => by
    rw [enumD_len] at hi
    obtain ⟨P, u, v, rfl, h1, h2, h3, h4⟩ := (walk_enum (K := K) (xs := xs)).yields i H1 x H' (by rw [← r.len]; exact hi) (.inl (l.rdl h n)) y
    subst h2
    cases h3
    obtain ⟨v', e3, rv⟩ := (r.le l).get (List.getElem?_eq_getElem hi)
    cases h4.symm.trans e3
    exact ⟨_, enumD_get (List.getElem?_eq_getElem hi), .new h1, st.new h1, .tup upd_same (st.free h1) (.cons (.int _) (.cons (rv.le (.new h1)) .nil))⟩
def enumF (f : EL) : EL := fun μ m => (f μ m).bind fun ds m1 => match ds with
  | [d] => (itF d m1).bind fun xs m2 => .ok (enumD xs) m2
  | _ => .bad
theorem pid_enum {e : Expr} {f : EL} {tpos : Pos} {elts : List Expr} {kk : Nat} (hg : Gl X "enumerate") (hm : X.mg "enumerate" = none) (ha : PA X [e] (TL T W f)) (hs : starEach [e] X.env = [(false, eval e X.env)] := by rfl) : PI X (.Tuple elts kk tpos) (.Call (.Name "enumerate" p) [e] [] pos) (TIt T W (enumF f)) :=
  pi_imp (pi_enum hg hm ha hs) fun σ H R ⟨ρ, m, μ, st, ev, h⟩ => by
    obtain ⟨ρ0, m0, μ0, s0, e0, h0⟩ := TL.bind st ev h
    refine ⟨ρ0, m0, μ0, s0, e0, h0.mono (fun vs H1 ⟨ρ1, m1, ds, l1, st1, ev1, r1, h1⟩ => ?_) fun _ _ _ z => z⟩
    split at h1
    · rename_i d
      cases r1 with
      | @cons _ v _ _ ra rr =>
        cases rr
        cases e : itF d m1 with
        | ok ds m2 =>
          obtain ⟨rfl, e⟩ := itF_ok e
          obtain ⟨a, xs, rfl, ha, na, rr⟩ := frozen_is ra e
          rw [e] at h1
          exact ⟨a, xs, rfl, .inl ha, h1 ρ1 H1 _ (.refl _ _) st1 (wk_enum ha na rr)⟩
        | err c fs m2 => unfold itF at e; split at e <;> cases e
        | bad => rw [e] at h1; exact h1.elim
    · exact h1.elim
/-- a class, by its name -/
theorem pd_own {x : Str} {C : Addr} (hg : Gl X x) (hm : X.mg x = some (.ref C)) (hd : (x == ("__debug__" : Str)) = false := by decide) : PE X (.Name x pos) (TD T W (cst (.con (.ref C)))) := pd_cst (pe_glob hg hm (v := .ref C) rfl hd) fun _ _ => .con _
theorem pd_ty {x : Str} {n : String} (hg : Gl X x) (hm : X.mg x = none) (hv : bootBuiltins x = some (.type n)) (hn : x ≠ "__name__" := by decide) (hd : (x == ("__debug__" : Str)) = false := by decide) : PE X (.Name x pos) (TD T W (cst (.con (.ty n)))) := pd_cst (pe_bltn hg hm hv (v := .ty n) rfl hn hd) fun _ _ => .con _
theorem pd_int {i : Int} {j : Nat} : PE X (.Constant (.int i) j pos) (TD T W (cst (.int i))) := pd_cst pe_int fun _ _ => .int _
theorem pd_str {x : Str} {j : Nat} : PE X (.Constant (.str x) j pos) (TD T W (cst (.str x))) := pd_cst pe_str fun _ _ => .str _
theorem pd_bl {b : Bool} {j : Nat} : PE X (.Constant (.bool b) j pos) (TD T W (cst (.bl b))) := pd_cst pe_bl fun _ _ => .bl _
theorem pd_non {j : Nat} : PE X (.Constant .none j pos) (TD T W (cst .non)) := pd_cst pe_non fun _ _ => .non
theorem pd_v {i : Nat} {x : Str} (hN : X.N[i]? = some x) (hv : Vis X.env.scope x) (hd : (x == ("__debug__" : Str)) = false := by decide) (hcd : (x == ("__classdict__" : Str)) = false := by decide) : PE X (.Name x pos) (TD T W (var i)) := pd_var (pe_var hN hv hd hcd)
theorem pd_eq {a b : Expr} {f g : E1} (hu : Rg 5 X.A) (ha : PE X a (TD T W f)) (hb : PE X b (TD T W g)) (hm : behindInMarks .Eq b = false := by rfl) : PE X (.Compare a [.Eq] [b] pos) (TD T W (bin eqF f g)) :=
  pd_cmp od_eq (OpR.or op_eq (op_eqD (by have d2 : X.A.units + 16 * 5 + 200 < 9900 := hu.room.un; show X.A.units + 64 < 9900; omega))) hm ha hb
theorem pd_ne {a b : Expr} {f g : E1} (hu : Rg 5 X.A) (ha : PE X a (TD T W f)) (hb : PE X b (TD T W g)) (hm : behindInMarks .NotEq b = false := by rfl) : PE X (.Compare a [.NotEq] [b] pos) (TD T W (bin neF f g)) :=
  pd_cmp od_ne (OpR.or op_ne (op_neD (by have d2 : X.A.units + 16 * 5 + 200 < 9900 := hu.room.un; show X.A.units + 64 < 9900; omega))) hm ha hb
theorem pd_lt {a b : Expr} {f g : E1} (ha : PE X a (TD T W f)) (hb : PE X b (TD T W g)) (hm : behindInMarks .Lt b = false := by rfl) : PE X (.Compare a [.Lt] [b] pos) (TD T W (bin ltF f g)) := pd_cmp od_lt op_lt hm ha hb
theorem pd_le {a b : Expr} {f g : E1} (ha : PE X a (TD T W f)) (hb : PE X b (TD T W g)) (hm : behindInMarks .LtE b = false := by rfl) : PE X (.Compare a [.LtE] [b] pos) (TD T W (bin leF f g)) := pd_cmp od_le op_le hm ha hb
theorem pd_gt {a b : Expr} {f g : E1} (ha : PE X a (TD T W f)) (hb : PE X b (TD T W g)) (hm : behindInMarks .Gt b = false := by rfl) : PE X (.Compare a [.Gt] [b] pos) (TD T W (bin gtF f g)) := pd_cmp od_gt op_gt hm ha hb
theorem pd_ge {a b : Expr} {f g : E1} (ha : PE X a (TD T W f)) (hb : PE X b (TD T W g)) (hm : behindInMarks .GtE b = false := by rfl) : PE X (.Compare a [.GtE] [b] pos) (TD T W (bin geF f g)) := pd_cmp od_ge op_ge hm ha hb
theorem pd_is {a b : Expr} {f g : E1} (ha : PE X a (TD T W f)) (hb : PE X b (TD T W g)) (hm : behindInMarks .Is b = false := by rfl) : PE X (.Compare a [.Is] [b] pos) (TD T W (bin isF f g)) := pd_cmp od_is op_isN hm ha hb
theorem pd_isNot {a b : Expr} {f g : E1} (ha : PE X a (TD T W f)) (hb : PE X b (TD T W g)) (hm : behindInMarks .IsNot b = false := by rfl) : PE X (.Compare a [.IsNot] [b] pos) (TD T W (bin isNotF f g)) := pd_cmp od_isNot op_notN hm ha hb
theorem td_eq {a b : Expr} {f g : E1} (hu : Rg 5 X.A) (ha : PE X a (TD T W f)) (hb : PE X b (TD T W g)) (hm : behindInMarks .Eq b = false := by rfl) : PT X (.Compare a [.Eq] [b] pos) (TB T W (isB (bin eqF f g))) :=
  td_cmp od_eq (OpR.or op_eq (op_eqD (by have d2 : X.A.units + 16 * 5 + 200 < 9900 := hu.room.un; show X.A.units + 64 < 9900; omega))) hm ha hb
theorem td_ne {a b : Expr} {f g : E1} (hu : Rg 5 X.A) (ha : PE X a (TD T W f)) (hb : PE X b (TD T W g)) (hm : behindInMarks .NotEq b = false := by rfl) : PT X (.Compare a [.NotEq] [b] pos) (TB T W (isB (bin neF f g))) :=
  td_cmp od_ne (OpR.or op_ne (op_neD (by have d2 : X.A.units + 16 * 5 + 200 < 9900 := hu.room.un; show X.A.units + 64 < 9900; omega))) hm ha hb
theorem td_lt {a b : Expr} {f g : E1} (ha : PE X a (TD T W f)) (hb : PE X b (TD T W g)) (hm : behindInMarks .Lt b = false := by rfl) : PT X (.Compare a [.Lt] [b] pos) (TB T W (isB (bin ltF f g))) := td_cmp od_lt op_lt hm ha hb
theorem td_le {a b : Expr} {f g : E1} (ha : PE X a (TD T W f)) (hb : PE X b (TD T W g)) (hm : behindInMarks .LtE b = false := by rfl) : PT X (.Compare a [.LtE] [b] pos) (TB T W (isB (bin leF f g))) := td_cmp od_le op_le hm ha hb
theorem td_gt {a b : Expr} {f g : E1} (ha : PE X a (TD T W f)) (hb : PE X b (TD T W g)) (hm : behindInMarks .Gt b = false := by rfl) : PT X (.Compare a [.Gt] [b] pos) (TB T W (isB (bin gtF f g))) := td_cmp od_gt op_gt hm ha hb
theorem td_ge {a b : Expr} {f g : E1} (ha : PE X a (TD T W f)) (hb : PE X b (TD T W g)) (hm : behindInMarks .GtE b = false := by rfl) : PT X (.Compare a [.GtE] [b] pos) (TB T W (isB (bin geF f g))) := td_cmp od_ge op_ge hm ha hb
theorem td_is {a b : Expr} {f g : E1} (ha : PE X a (TD T W f)) (hb : PE X b (TD T W g)) (hm : behindInMarks .Is b = false := by rfl) : PT X (.Compare a [.Is] [b] pos) (TB T W (isB (bin isF f g))) := td_cmp od_is op_isN hm ha hb
theorem td_isNot {a b : Expr} {f g : E1} (ha : PE X a (TD T W f)) (hb : PE X b (TD T W g)) (hm : behindInMarks .IsNot b = false := by rfl) : PT X (.Compare a [.IsNot] [b] pos) (TB T W (isB (bin isNotF f g))) := td_cmp od_isNot op_notN hm ha hb
theorem pd_len {e : Expr} {f : EL} (hg : Gl X "len") (hm : X.mg "len" = none) (ha : PA X [e] (TL T W f)) (he : starEach [e] X.env = [(false, eval e X.env)] := by rfl) : PE X (.Call (.Name "len" p) [e] [] pos) (TD T W (callE lenF f)) :=
  pd_callB cd_len call_len hg hm Boot.«len» ha (by decide) (by decide) he rfl
theorem pd_toInt {e : Expr} {f : EL} (hg : Gl X "int") (hm : X.mg "int" = none) (ha : PA X [e] (TL T W f)) (he : starEach [e] X.env = [(false, eval e X.env)] := by rfl) : PE X (.Call (.Name "int" p) [e] [] pos) (TD T W (callE intCF f)) :=
  pd_callT cd_int call_int1 hg hm Boot.«int» ha (by decide) (by decide) he rfl
end

/-! ### lengths of argument lists -/
class LenL (f : EL) (n : outParam Nat) : Prop where
  len : ∀ μ m ds m', f μ m = .ok ds m' → ds.length = n
instance : LenL nilL 0 := ⟨fun _ _ _ _ h => len_nil h⟩
instance {f : E1} {g : EL} {n : Nat} [h : LenL g n] : LenL (consL f g) (n + 1) := ⟨len_cons h.len⟩

/-! ### defs by their names -/
structure Fn (P : Program) (w : World) (K : PySem.W.Frag) (mg : Str → Option Value) (base : Heap) (T : Tab) (k : Nat) (x : Str) (ps : List Str) (kws : List (List Str × List Nat)) (F : FD) : Prop where
  ex : ∃ (f : Addr) (fd : FuncData), FnG P w K mg base k f fd ps (spD T ps.length F) ∧ mg x = some (.ref f) ∧ PySem.W.keepIn K (.ref f) = true ∧ Binds K fd ps [] ∧
    ∀ q ∈ kws, ∀ ws : List Value, ws.length = q.1.length → bindArgs fd ⟨[], q.1.zip ws⟩ = pure (ps.zip (pick q.2 ws))
section
variable {X : Cx} {T : Tab} {W : WX} {pos p : Pos}
theorem pd_fn {k j : Nat} {x : Str} {ps : List Str} {kws : List (List Str × List Nat)} {F : FD} {e : Expr} {es : List Expr} {f : EL} (fn : Fn X.prog X.w X.K X.mg X.base T k x ps kws F) (rg : Rg j X.A) (hk : k ≤ j) (tk : Takes X W) (hg : Gl X x) (ha : PA X (e :: es) (TL T W f)) [l : LenL f ps.length]
    (n : (e :: es).length = ps.length := by rfl) (hdb : (x == ("__debug__" : Str)) = false := by decide) (he : starEach (e :: es) X.env = (false, eval e X.env) :: starEach es X.env := by rfl) (hpl : (backTo pos (starEach es X.env)).any (·.1) = false := by rfl) :
    PE X (.Call (.Name x p) (e :: es) [] pos) (TD T W (callF F [] f)) := by
  obtain ⟨a, fd, G, hm, kp, hb, _⟩ := fn.ex
  exact pd_call G (rg.mono hk) tk hg hm kp (by rw [List.length_nil, Nat.add_zero]; exact n) hb .nil (fun _ _ => .nil) ha (fun μ m ds m' h => (l.len μ m ds m' h).trans n.symm) hdb he hpl
theorem pick_len {α : Type} {idx : List Nat} {n : Nat} (h : idx.all (fun i => decide (i < n)) = true) {ws : List α} (hw : ws.length = n) : (pick idx ws).length = idx.length := by
  induction idx with
  | nil => rfl
  | cons i idx ih =>
    rw [List.all_cons, Bool.and_eq_true, decide_eq_true_eq] at h
    unfold pick at ih ⊢
    rw [List.filterMap_cons_some (List.getElem?_eq_getElem (by rw [hw]; exact h.1)), List.length_cons, List.length_cons, ih h.2]
theorem pd_fnK {k j : Nat} {x : Str} {ps ks : List Str} {idx : List Nat} {kws : List (List Str × List Nat)} {F : FD} {kw : List Keyword} {f : EL} (fn : Fn X.prog X.w X.K X.mg X.base T k x ps kws F) (rg : Rg j X.A) (hk : k ≤ j) (tk : Takes X W) (hg : Gl X x) (hq : (ks, idx) ∈ kws) (ha : PK X kw (TL T W f)) [l : LenL f ks.length]
    (hi : idx.all (fun i => decide (i < ks.length)) = true := by rfl) (hl : idx.length = ps.length := by rfl)
    (hall : (backToKw pos (keywordEach kw X.env)).all (·.1.isSome) = true := by rfl) (hks : (backToKw pos (keywordEach kw X.env)).filterMap (·.1) = ks := by rfl)
    (hdb : (x == ("__debug__" : Str)) = false := by decide) (hpl : ((backTo pos (starEach [] X.env)).any (·.1) || (backToKw pos (keywordEach kw X.env)).any (·.1.isNone)) = false := by rfl) :
    PE X (.Call (.Name x p) [] kw pos) (TD T W (callK F idx f)) := by
  obtain ⟨a, fd, G, hm, kp, _, hb⟩ := fn.ex
  exact pd_callK G (rg.mono hk) tk hg hm kp (hb _ hq) (fun n hn ws hw => (pick_len hi (hw.trans hn)).trans hl) ha l.len hall hks hdb hpl
end
/-- a module's name, read off the written part -/
theorem mg_some {K : PySem.W.Frag} {h : Heap} {mg : Str → Option Value} {n : Str} {v : Value} (X : K.In h) (G : h.Ns mainGlobals mg) (e : PySem.W.nsIn K mainGlobals n = some (some v)) : mg n = some v := PySem.W.mg_of X G e
end DL
end

section
set_option Elab.async false
set_option maxRecDepth 100000
set_option maxHeartbeats 4000000
set_option linter.all false
/-! D14: an own exception without a field; dicts of one key. -/
namespace DL
open PySem PySem.Spec PyProof.Rows PySem.W PySem.Calls


open L2 in
/-- h' is h with an exception of the class at C, at e, without a dict -/
structure Made0 (h h' : Heap) (C : Addr) (e : Addr) : Prop where
  keep : ∀ b o, h.get? b = some o → h'.get? b = some o
  out : h.get? e = none
  exc : ∃ vs, h'.get? e = some { cls := .ref C, dict := none, data := .fields vs } ∧ vs[1]? = some .none
def MakeOk0 (prog : Program) (w : World) (base : Heap) (C : Addr) : Prop := ∀ (s : Shared) (stk : List Env), (∀ b o, base.get? b = some o → s.heap.get? b = some o) →
  wpAny (model prog w) { handled := none, depth := 980, frames := some stk, guards := some [], units := 9650 } (call (.ref C) []) (fun v s' => ∃ e h' tk, v = .ref e ∧ s' = { s with heap := h', toks := tk } ∧ Made0 s.heap h' C e) (fun _ _ => False) s
section
variable {prog : Program} {w : World} {K : Frag} {mg : Str → Option Value} {base : Heap} {C fI cc cda : Addr} {name qual sf txt : Str} {params : Arguments} {scope : Scope} {dV kV doc pm ct oc ccl cl : Value} {an od cdd cld : Option Addr} {osl ccs csl : Array (Option Value)} {p1 p2 p3 p4 p5 p6 : Pos}
  {B newId initId : String} {bmB : List Value} {ar : Arg} {vs : Array Value} {file : Str} {tf : Tok} {cd : ClassData} {pl : Env → Sem Bool}
theorem make_ok0 (M : L2.Mod K mg base) (FB : ExcBaseFacts B newId initId bmB) (KF : KxsFacts B initId) (q : excInitIn K C bmB newId = true) (iC : findIn K (.ref C) "__init__" = some (some (.ref fI))) (tI : typeIn K (.ref fI) = some (.type "function"))
    (lk : K.lookup fI = some ⟨oc, od, .func (ksFn name qual params [.Expr (.Call (.Attribute (.Call (.Name "super" p1) [] [] p2) "__init__" p3) [.Constant (.str txt) 0 p4] [] p5) p6] scope dV kV doc pm an (.ref cda) ct cc), osl⟩)
    (hcd : codeIn K (.ref cda) qual = true) (s1 : scope.names.lookup ("super" : Str) = some .globalImplicit) (s2 : scope.names.lookup ("__class__" : Str) = some .free) (s3 : scope.names.lookup sf = some .local)
    (sc : ∀ x ∈ scope.names, x.2 ≠ .cell) (sco : scope.isCoroutine = false) (sg : scope.isGenerator = false) (sk : scope.kind = .function) (hp : (params.posonlyargs ++ params.args).head? = some ar) (har : ar.arg = sf)
    (hb : ∀ a : Value, bindArgs (ksFn name qual params [.Expr (.Call (.Attribute (.Call (.Name "super" p1) [] [] p2) "__init__" p3) [.Constant (.str txt) 0 p4] [] p5) p6] scope dV kV doc pm an (.ref cda) ct cc) ⟨[a], []⟩ = pure [(sf, a)])
    (hcode : K.lookup cda = some ⟨ccl, cdd, .fields vs, ccs⟩) (hvs : vs[2]? = some (.str file tf)) (hfile : ((prog.main.file : Str) == file) = true) (htop : (prog.main.scope.names.lookup ("super" : Str)).isSome = false) (hcell : K.lookup cc = some ⟨cl, cld, .cell (some (.ref C)), csl⟩)
    (hcl : clsIn K C = some cd) (hsub : mroIn K C (.ref C) = some true) (hsup : ks_superIn K C C "__init__" = some (some (.builtin initId))) (hB : subIn K (.ref C) (.type B) = some true) (third : nsIn K cStatics "thirdparty.any" = some none) (hsn : nsIn K mainGlobals "super" = some none)
    (hev : ∀ env : Env, eval (.Call (.Attribute (.Call (.Name "super" p1) [] [] p2) "__init__" p3) [.Constant (.str txt) 0 p4] [] p5) env = (do
      let ov ← attributeBase (.Call (.Name "super" p1) [] [] p2) "__init__" env (eval (.Call (.Name "super" p1) [] [] p2) env)
      standAt p3.atName
      let (f, first) ← holding [ov] (getMethod ov "__init__" (pl env))
      callWith p5 f first (backTo p5 (starEach [.Constant (.str txt) 0 p4] env)) []))
    (hst : ∀ env : Env, starEach [.Constant (.str txt) 0 p4] env = [(false, eval (.Constant (.str txt) 0 p4) env)]) (hsw1 : ∀ env : Env, swapsWith (.Call (.Attribute (.Call (.Name "super" p1) [] [] p2) "__init__" p3) [.Constant (.str txt) 0 p4] [] p5) none p6.line env = pure false)
    (hdb1 : (sf == ("__debug__" : Str)) = false) : MakeOk0 prog w base C := by
  intro s stk bk
  have X : K.In s.heap := M.kin.keeps bk
  obtain ⟨nm, N', qn, bs, bm, hdct, sn, sub, ab, col, dd, k0, k1, k2, k3, k5, hC, hT⟩ := excInit_of X q
  obtain ⟨hh, g, d, tk, os⟩ := s
  refine wpAny_call (HandSPX.call_own FB hT hC (looks_findIn X iC) (fun self => bind_fn X self tI) (show 0 ≤ sizeLine by decide) ?_)
  have kk : ∀ b o, hh.get? b = some o → ((hh.push (kdv_tup [])).push (HandSPX.excO C hh.objs.size)).get? b = some o := fun b o e => Heap.get?_push_of_some _ (Heap.get?_push_of_some _ e)
  have hget : ((hh.push (kdv_tup [])).push (HandSPX.excO C hh.objs.size)).get? (hh.objs.size + 1) = some (HandSPX.excO C hh.objs.size) := by heap_get
  have X2 : K.In ((hh.push (kdv_tup [])).push (HandSPX.excO C hh.objs.size)) := X.keeps kk
  generalize (hh.push (kdv_tup [])).push (HandSPX.excO C hh.objs.size) = h2 at kk hget X2
  have bk2 : ∀ b o, base.get? b = some o → h2.get? b = some o := fun b o e => kk b o (bk b o e)
  obtain ⟨mb, hmb, hbl⟩ := M.blt
  have room : (({ handled := none, depth := 980, frames := some stk, guards := some [], units := 9650 } : Around).under (.builtin "type.__call__" ⟨[.ref C], []⟩)).depth < recursionLimit := by
    show 980 + (Code.builtin "type.__call__" ⟨[.ref C], []⟩).weight < 1000
    rw [show (Code.builtin "type.__call__" ⟨[.ref C], []⟩).weight = 1 from rfl]
    decide
  refine ks_codeAny_call_defAt room (X2 _ _ lk) rfl (M.nolimit.keeps bk2) (codeRec_of X2 hcd) rfl (BindsTo.of_eq (hb _)) sc (fun x hx => ?_) (fun h3 ns3 k3 => ?_) sco sg sk
  · simp only [List.mem_cons, List.not_mem_nil, or_false] at hx
    subst hx
    exact s3
  have X3 : K.In h3 := X2.keeps k3
  have bk3 : ∀ b o, base.get? b = some o → h3.get? b = some o := fun b o e => k3 b o (bk2 b o e)
  have self : (([(sf, Value.ref (hh.objs.size + 1))] : List (Str × Value)).reverse.lookup sf) = some (.ref (hh.objs.size + 1)) := by simp [List.lookup]
  have I3 : InstAt h3 (hh.objs.size + 1) (HandSPX.excO C hh.objs.size) C none := ⟨k3 _ _ hget, rfl, rfl, trivial⟩
  have quiet : ∀ {L : Addr} {body : List Stmt}, interactive (callEnv (ksFn name qual params body scope dV kV doc pm an (.ref cda) ct cc) L fI) = false := fun {L body} => by
    show (scope.kind == .module && _) = false
    rw [sk]; rfl
  refine ks_wpAt_execs_cons (ks_wpAt_Expr_any (ks_wpAt_MethodCall (pl := pl _) ?_ (hev _)) quiet (hsw1 _))
  refine ks_wpAt_super_base (f := fI) (cc := cda) s1 s2 (by decide) rfl (X3 _ _ lk) rfl hp rfl (X3 _ _ hcode) rfl hvs hfile htop ?_
  refine ks_loadName_global sk s1 (loadGlobal_builtin (M.glob.keeps bk3) (mg_none_of M.kin M.glob hsn) (hmb.keeps bk3) ((hbl _ (by decide)).trans Boot.«super») ⟨rfl, ?_⟩)
  refine wpAny_loadName_free sk s2 rfl ⟨_, X3 _ _ hcell, rfl⟩ ?_
  rw [har]
  refine wpAny_loadName_local sk s3 ns3 self ?_
  obtain ⟨oD, hD1, hD2⟩ : ∃ oD, h3.get? C = some oD ∧ oD.data = .cls cd := by
    unfold clsIn at hcl
    split at hcl
    · rename_i ho
      cases hcl
      exact ⟨_, X3 _ _ ho, rfl⟩
    · cases hcl
  refine ks_wpAny_isType_cls hD1 hD2 ⟨rfl, ?_⟩
  refine ks_wpAny_call_super hD1 hD2 I3.at_ I3.cls (fun c e => nomatch e) (looks_mroIn X3 hsub) (fun h4 e4 k4 => ?_)
  have X4 : K.In h4 := X3.keeps k4
  have I4 : InstAt h4 (hh.objs.size + 1) (HandSPX.excO C hh.objs.size) C none := ⟨k4 _ _ I3.at_, rfl, rfl, trivial⟩
  unfold ks_superIn at hsup
  rw [hcl] at hsup
  refine kxs_getMethod KF e4 (looks_opaque X4 third) (l₀ := cd.mro) (fun A Q E s k q => wpAny_bind ((looks_clsIn X4 hcl) A _ E s k (wpAny_pure q))) rfl X4 hsup (I4.type.andThen (looks_subIn X4 hB)) (ks_ne X4 I4 hcl) (by decide) ?_
  have k5 : ∀ b o, h4.get? b = some o → (h4.push (kxs_mw initId (hh.objs.size + 1))).get? b = some o := fun b o e => Heap.get?_push_of_some _ e
  have g5 : (h4.push (kxs_mw initId (hh.objs.size + 1))).get? h4.objs.size = some (kxs_mw initId (hh.objs.size + 1)) := Heap.get?_push_at rfl rfl
  refine kxs_callWith (i := initId) (x := hh.objs.size + 1) (by rw [hst]; rfl) ?_
  rw [hst]
  refine evalArgs_plain ?_
  refine Calls.spliced_cons (KFB.if_not rfl (Constant_str ?_))
  refine Calls.spliced_nil ⟨g5, ?_⟩
  refine bound_init FB (X4.keeps k5) q g5 (t0 := hh.objs.size) (k5 _ _ I4.at_) (show 1 ≤ sizeLine by decide) fun h6 t1 k6 e6 => ?_
  have hne : ∀ {b : Addr} {o : Obj}, hh.get? b = some o → b ≠ hh.objs.size + 1 := fun {b o} e => Nat.ne_of_lt (Nat.lt_succ_of_lt (Heap.lt_size e))
  have all6 : ∀ b o, hh.get? b = some o → h6.get? b = some o := fun b o e => k6 b o (hne e) (k5 _ _ (k4 _ _ (k3 _ _ (kk _ _ e))))
  have X6 : K.In h6 := X.keeps all6
  refine wpAt_of_wpAny (wpAny_execs_nil ⟨rfl, _, h6, _, rfl, rfl, ?_⟩)
  have out : hh.get? (hh.objs.size + 1) = none := by
    cases z : hh.get? (hh.objs.size + 1) with
    | none => rfl
    | some o => exact absurd (Heap.lt_size z) (Nat.not_lt.mpr (Nat.le_succ _))
  exact ⟨fun b o e => all6 b o e, out, _, e6, rfl⟩
end
end DL

namespace DL
open PySem PySem.Spec PyProof.Rows L2
section
variable {X : Cx} {T : Tab} {W : WX} {pos p : Pos}
def mk0E (c : Nat) : E1 := fun _ m => .ok (.exc c []) m
theorem pd_mk0 {C : Addr} {c : Nat} {x : Str} (mk : MakeOk0 X.prog X.w X.base C) (rg : Rg 5 X.A) (kp : PySem.W.keepIn X.K (.ref C) = true) (hc : T.cls c = C) (hf : T.flds c = []) (hg : Gl X x) (hm : X.mg x = some (.ref C)) (hdb : (x == ("__debug__" : Str)) = false := by decide) :
    PE X (.Call (.Name x p) [] [] pos) (TD T W (mk0E c)) := ⟨fun pins s σ H Q I h => by
  obtain ⟨ρ, m, μ, st, ev, h⟩ := h
  refine wpAny_Call_Name_kw (ld_glob I hg hm ?_ hdb)
  refine PySem.W.callWith_K0 I.kIn kp ?_
  have go := mk s X.stack I.bk
  refine fun Γ p hΓ => wpAny_mono (Q' := EP X pins σ Q) (E' := X.xe) go (fun w s2 hw => ?_) (fun _ _ z => z.elim) Γ p (room_in rg I.ok.frames hΓ)
  obtain ⟨a, h', tk', rfl, rfl, k, out, vs, e1, _⟩ := hw
  have n1 : H a = none := out_free I.hok out
  have J := I.laidN (t' := tk') (o := ExcO a C none) k out n1 (excO_ok e1)
  exact ⟨.ref a, _, J, rfl, h ρ _ (.ref a) (.new n1) (st.new n1) (.exc (d := none) (xs := []) (by rw [upd_same, hc]) (st.free n1) .nil (by rw [hf]; rfl) (.inl ⟨hf, rfl⟩))⟩⟩

/-! ### dicts -/
def dic0E : E1 := fun _ m => .ok (.dic [] []) m
theorem pd_dic0 : PE X (.Dict [] [] pos) (TD T W dic0E) := pe_imp pe_dnewK fun σ H Q ⟨ρ, m, μ, st, ev, h⟩ p hp =>
  h ρ _ (.ref p) (.new hp) (st.new hp) (.dic (xs := []) upd_same (st.free hp) rfl .nil)
def dic1E (k : Str) (d : D) : E1 := fun _ m => .ok (.dic [.inr k] [d]) m
theorem pd_dic1 {k : Str} {j : Nat} {e : Expr} {v : V} {d : D} {p1 : Pos} (he : PE X e (tC v)) (r : ∀ ρ H, Is T ρ H d v) : PE X (.Dict [some (.Constant (.str k) j p1)] [e] pos) (TD T W (dic1E k d)) :=
  pe_imp (pe_disp (pps_cons pe_str he pps_nil) rfl rfl (by simp) (by simp)) fun σ H Q ⟨ρ, m, μ, st, ev, h⟩ p hp => by
    refine ⟨upd_same, [(.inr k, v)], rfl, by simp, ?_⟩
    have e2 : upd (upd H p (.dK [])) p (.dK (mergeK [] [(.inr k, v)])) = upd H p (.dK [(.inr k, v)]) := by
      funext b
      by_cases hb : b = p
      · subst hb; rw [upd_same, upd_same]; rfl
      · rw [upd_ne hb, upd_ne hb, upd_ne hb]
    rw [e2]
    exact h ρ _ (.ref p) (.new hp) (st.new hp) (.dic (xs := [v]) upd_same (st.free hp) rfl (.cons (r _ _) .nil))
end
theorem mgn {K : PySem.W.Frag} {base : Heap} {mg : Str → Option Value} {n : Str} (M : L2.Mod K mg base) (e : PySem.W.nsIn K mainGlobals n = some none) : mg n = none := PySem.W.mg_none_of M.kin M.glob e
end DL
end

section
set_option Elab.async false
set_option maxRecDepth 100000
set_option maxHeartbeats 4000000
set_option linter.all false
/-! D15: facts of the classes, asked at once; the end of a law. -/
namespace DL
open PySem PySem.Spec PyProof.Rows L2
def clsXB (K : PySem.W.Frag) (C : Addr) : Bool := xfB K C && (PySem.W.clsIn K C).isSome && decide (PySem.W.findIn K (.ref C) "__class__" = some (some (.builtin "object.__class__"))) &&
  decide (PySem.W.specialIn K (.builtin "object.__class__") "__get__" = some (some (.builtin "getset_descriptor.__get__"))) && decide (PySem.W.takesIn K (.builtin "object.__class__") = some true) && decide (PySem.W.mroIn K C (.type "object") = some true)
theorem clsX_by {K : PySem.W.Frag} {C : Addr} (h : clsXB K C = true) : ClsX K C := by
  unfold clsXB at h
  simp only [Bool.and_eq_true, decide_eq_true_eq] at h
  obtain ⟨⟨⟨⟨⟨h1, h2⟩, h3⟩, h4⟩, h5⟩, h6⟩ := h
  exact ⟨xfB_ok h1, h2, h3, h4, h5, h6⟩
theorem all_c {n : Nat} {f : Nat → Bool} (h : (List.range n).all f = true) : ∀ c, c < n → f c = true := fun c hc => List.all_eq_true.mp h c (List.mem_range.mpr hc)
theorem cls_by {K : PySem.W.Frag} {T : Tab} {n : Nat} (h : (List.range n).all (fun c => clsXB K (T.cls c)) = true) : ∀ c, c < n → ClsX K (T.cls c) := fun c hc => clsX_by (all_c h c hc)
theorem no_by {K : PySem.W.Frag} {T : Tab} {n : Nat} {x : Str} (h : (List.range n).all (fun c => decide (PySem.W.findIn K (.ref (T.cls c)) x = some none)) = true) : ∀ c, c < n → PySem.W.findIn K (.ref (T.cls c)) x = some none := fun c hc => of_decide_eq_true (all_c h c hc)
def cvV : V → Option Value
  | .ty n => some (.type n)
  | .ref a => some (.ref a)
  | _ => none
theorem cvV_ok {cv : V} {u : Value} (h : cvV cv = some u) : ClsV cv u := by
  unfold cvV at h
  split at h <;> cases h
  · exact .ty _
  · exact .own _
def kitB (K : PySem.W.Frag) (t : Value) (cv : V) (b : Bool) : Bool := match cvV cv with
  | some u => decide (PySem.W.kitOne K t u = some b)
  | none => false
theorem kitB_ok {K : PySem.W.Frag} {t : Value} {cv : V} {b : Bool} (h : kitB K t cv b = true) : ∃ u, ClsV cv u ∧ PySem.W.kitOne K t u = some b := by
  unfold kitB at h
  split at h
  · rename_i u e
    exact ⟨u, cvV_ok e, of_decide_eq_true h⟩
  · cases h
theorem isi_by {K : PySem.W.Frag} {T : Tab} {n : Nat} {cs : List V} {sups : Nat → List V} (h1 : (List.range n).all (fun c => cs.all fun cv => kitB K (.ref (T.cls c)) cv ((sups c).any (cvE cv))) = true)
    (h2 : tyNames.all (fun a => cs.all fun cv => kitB K (.type a) cv (datSub a cv)) = true) : IsiOk K T n cs sups :=
  ⟨fun c hc cv hv => kitB_ok (List.all_eq_true.mp (all_c h1 c hc) cv hv), fun a ha cv hv => kitB_ok (List.all_eq_true.mp (List.all_eq_true.mp h2 a ha) cv hv)⟩
def sysB (K : PySem.W.Frag) : Bool := match K.lookup sysModules with
  | some ⟨_, _, .dict _ _, _⟩ => true
  | _ => false
theorem sys_by {K : PySem.W.Frag} (h : sysB K = true) : ∃ o, K.lookup sysModules = some o ∧ ∀ vs n, o.data ≠ .seq vs n := by
  unfold sysB at h
  split at h
  · rename_i e
    exact ⟨_, e, fun vs n z => by cases z⟩
  · cases h
theorem mem_lk : ∀ {K : List (Nat × Obj)} {a : Nat} {o : Obj}, K.lookup a = some o → (a, o) ∈ K
  | [], _, _, e => by cases e
  | (b, u) :: K, a, o, e => by
    simp only [List.lookup] at e
    split at e
    · rename_i h
      cases e
      rw [beq_iff_eq.mp h]
      exact List.mem_cons_self ..
    · exact List.mem_cons_of_mem _ (mem_lk e)
/-- no list stands in the written part -/
def noLB (K : PySem.W.Frag) : Bool := K.all fun p => match p.2.cls with
  | .type "list" => false
  | _ => true
theorem noL_by {K : PySem.W.Frag} (h : noLB K = true) {a : Addr} {o : Obj} (e : K.lookup a = some o) : o.cls ≠ .type "list" := fun z => by
  have q := List.all_eq_true.mp h (a, o) (mem_lk (K := K) e)
  simp only [z] at q
  cases q
theorem walk_g {l : PySem.W.OpenLaw} {n k : Nat} {q : Program} {loose : List Str} {XP : (Str → Option Value) → Heap → Prop} {YP : World → Heap → Prop} {d : DefRec} {K : Params → PySem.W.Frag} {x : Str} {T : Tab} {F : FD} (cs : List (Addr × Addr))
    (hn : l.most = some n) (hn2 : n ≤ sizeLine) (hdf : d.params.defaults = []) (room : Rg k callerA) (hY : ∀ (w : World) (h : Heap), YP w h → (K w.params).In h ∧ ∀ p ∈ cs, h.get? p.2 = some { cls := .none, data := .fields #[] })
    (noL : ∀ w : World, noLB (K w.params) = true) (out : ∀ w : World, ∀ p ∈ cs, (K w.params).lookup p.2 = none) (hd : ∀ (w : World) (h : Heap), (K w.params).In h → ∀ p ∈ cs, PySem.W.CodeHd h p.1 p.2) (tabs : ∀ q ∈ T.tabs, ∃ p ∈ cs, p.2 = q.1)
    (fn : ∀ (w : World) (mg : Str → Option Value) (base : Heap), L2.Mod (K w.params) mg base → (∀ p ∈ cs, LamX.TabB base mg p.1 p.2) → Fn l.prog w (K w.params) mg base T k d.name [x] [] F)
    (holds : ∀ ns : List Int, ns.length ≤ n → (∀ z ∈ ns, Builtin.Int.intBits z ≤ 1048576) → ∃ m, F [.scr (ns.map .int)] [] = .ok (.bl true) m) :
    PySem.W.WalkO q loose XP YP l.row.toRowW d [] (fun f vs => PySem.call f vs) := by
  refine Att.attach_callB hn hdf fun w s₀ s₁ mg mb fa o pm cd doc a vs ns G Y ho hdd hcd hmg hobj hints hlen hbits hg => ?_
  obtain ⟨KX, emp⟩ := hY w _ Y
  refine law_g (x := x) KX G.T.g G.T.b G.T.builtins G.T.nolimit hg emp (out w) (hd w _ KX) G.T.bmain hobj hints (Nat.le_trans hlen hn2) room (fun o e => noL_by (noL w) e) (fun base M TB => ?_) tabs (holds ns hlen hbits)
  obtain ⟨f, fd, G1, h1, _, h2, _⟩ := (fn w mg base M TB).ex
  rw [hmg] at h1
  cases h1
  exact ⟨fd, G1, h2⟩
end DL
end

section
set_option Elab.async false
set_option maxRecDepth 100000
set_option maxHeartbeats 4000000
set_option linter.all false
/-! D16: try with except clauses, by functions. -/
namespace DL
open PySem PySem.Spec PyProof.Rows L2
section
variable {X : Cx} {pins : List (Addr × Obj)} {σ : L2.St} {H : Hp} {s : Shared}
/-- an exception's object that stands in the heap is tracked from now on -/
theorem inv_hold {a : Addr} {o : HO} {oa : Obj} {us : Array Value} (I : Inv X pins σ H s) (fr : H a = none) (early : X.s_0.heap.get? a = none) (there : s.heap.get? a = some oa) (rec : oa.data = .fields us) (nloc : a ≠ X.env.locals) (npin : ∀ q ∈ X.pn ++ pins, q.1 ≠ a)
    (ok : ObjOk X.prog X.w (upd H a o) s.heap a o) : Inv X pins σ (upd H a o) s := by
  refine { ok := I.ok, os := I.os, bare := I.bare, base := ?_, loc := I.loc, cell := I.cell, free := ?_, freeC := fun x c e => ?_, pin := fun q hq => ?_, hok := fun b u e => ?_, len := I.len }
  · exact { keep := I.base.keep, slot := I.base.slot, there := I.base.there
            free := fun b u z n x => by
              have : b ≠ a := fun y => by rw [y, early] at z; cases z
              rw [upd_ne this]; exact I.base.free b u z n x
            tups := fun b xs z => by
              have y := I.base.tups b xs z
              rw [upd_ne (ne_of_none y fr)]; exact y
            frzs := fun b u xs z => by
              have y := I.base.frzs b u xs z
              rw [upd_ne (ne_of_none y fr)]; exact y
            tbls := fun b ps z => by
              obtain ⟨more, y⟩ := I.base.tbls b ps z
              exact ⟨more, by rw [upd_ne (ne_of_none y fr)]; exact y⟩ }
  · rw [upd_ne (Ne.symm nloc)]; exact I.free
  · have : c ≠ a := fun y => by
      obtain ⟨v, ob, h1, h2⟩ := I.cell x c e
      rw [y, there] at h1; cases h1
      rw [rec] at h2; cases h2
    rw [upd_ne this]; exact I.freeC x c e
  · obtain ⟨h1, h2, h3⟩ := I.pin q hq
    exact ⟨h1, by rw [upd_ne (npin q hq)]; exact h2, h3⟩
  · by_cases hb : b = a
    · subst hb
      rw [upd_same] at e; cases e
      exact ok
    · rw [upd_ne hb] at e
      exact (I.hok b u e).stay (fun _ _ _ q => q) (fun c q => by rw [upd_ne (ne_of_none q fr)]; exact q) fun c xs q => by rw [upd_ne (ne_of_none q fr)]; exact q

/-- an exception that came out of a try's body and has landed in our frame -/
structure Down (X : Cx) (pins : List (Addr × Obj)) (σ : L2.St) (H : Hp) (s : Shared) (a : Addr) (cls : Value) (d : Option Addr) (B : Heap) (si : Shared) : Prop where
  inv : Inv X pins σ H si
  grd : ∀ b o, si.heap.get? b = some o → b ∉ frs X.stack → B.get? b = some o
  up : si.heap.UpToSlots s.heap
  fly : HandSPX.FlyingZ B (X.env :: X.outer) a (Zc cls d) s.heap
  na : H a = none
  os : s.os = si.os
  bare : AllBare s.gens
variable {a : Addr} {cls : Value} {d : Option Addr} {B : Heap} {si : Shared}
theorem Down.here (F : Down X pins σ H s a cls d B si) : Inv X pins σ H s := F.inv.landed F.grd F.fly.1 F.up F.os F.bare
theorem Down.grown {g : Heap} (F : Down X pins σ H s a cls d B si) (k : ∀ b o, s.heap.get? b = some o → g.get? b = some o) : Down X pins σ H { s with heap := g } a cls d B si := by
  obtain ⟨f1, f2, f3, oe, vs, tb, oT, ts, e1, e2, e3, e4, e5, e6, e7, e8⟩ := id F.fly
  exact ⟨F.inv, F.grd, F.up.trans (.of_keeps k), ⟨fun b o z => k b o (f1 b o z), f2, f3.of_keeps fun b o z _ => ⟨o, k b o z, rfl⟩, oe, vs, tb, oT, ts, k _ _ e1, e2, e3, e4, e5, e6, k _ _ e7, e8⟩, F.na, F.os, F.bare⟩
theorem Down.slots {g : Heap} (F : Down X pins σ H s a cls d B si) (up : s.heap.UpToSlots g) (fl : HandSPX.FlyingZ B (X.env :: X.outer) a (Zc cls d) g) : Down X pins σ H { s with heap := g } a cls d B si :=
  ⟨F.inv, F.grd, F.up.trans up, fl, F.na, F.os, F.bare⟩
theorem Down.apart (F : Down X pins σ H s a cls d B si) : a ∉ frs (X.env :: X.outer) := fun hm => by
  obtain ⟨oa, ua, h1, _, h2⟩ := F.fly.there
  obtain ⟨_, ob, h3, h4⟩ := F.fly.2.2.1.mem hm
  rw [h1] at h3; cases h3
  exact h4 ua h2
theorem Down.nloc (F : Down X pins σ H s a cls d B si) (hf : X.env.frame = some X.env.locals) : a ≠ X.env.locals := fun z => F.apart (List.mem_filterMap.mpr ⟨X.env, .head _, hf.trans (congrArg some z.symm)⟩)
theorem Down.early (F : Down X pins σ H s a cls d B si) (hs : X.stack = X.env :: X.outer) : si.heap.get? a = none := by
  cases z : si.heap.get? a with
  | none => rfl
  | some o =>
    have := F.grd a o z (by rw [hs]; exact F.apart)
    rw [F.fly.2.1] at this; cases this
/-- ... it is tracked -/
theorem Down.held {C : Addr} (F : Down X pins σ H s a (.ref C) d B si) (hs : X.stack = X.env :: X.outer) (hf : X.env.frame = some X.env.locals) (hx : X.ex = []) : Inv X pins σ (upd H a (ExcO a C d)) s := by
  obtain ⟨oa, ua, h1, ⟨h3, h4⟩, h2⟩ := F.fly.there
  have e0 := F.early hs
  refine inv_hold F.here F.na ?_ h1 h2 (F.nloc hf) (fun q hq z => ?_) ⟨⟨oa, ua, h1, h3, h4, h2⟩, ⟨_, h1⟩, fun g1 g2 ⟨o, vs, z, r⟩ k => ⟨o, vs, k _ z, r⟩⟩
  · cases z : X.s_0.heap.get? a with
    | none => rfl
    | some o =>
      obtain ⟨o2, q⟩ := F.inv.base.there a o z (by rw [hx]; exact List.not_mem_nil)
      rw [e0] at q; cases q
  · have := (F.inv.pin q hq).1
    rw [z, e0] at this; cases this
/-- into an except suite, and back -/
theorem inv_into (I : Inv X pins σ H s) (a : Addr) : Inv (X.suite a (X.pn ++ pins)) [] σ H s :=
  { ok := I.ok.suite a _, os := I.os, bare := I.bare, base := I.base, loc := I.loc, cell := I.cell, free := I.free, freeC := I.freeC, hok := I.hok, len := I.len
    pin := fun q hq => by rw [List.append_nil] at hq; exact I.pin q hq }
theorem inv_outof {more : List (Addr × Obj)} (ok : X.Ok) (I : Inv (X.suite a (X.pn ++ pins)) more σ H s) : Inv X pins σ H s :=
  { ok := ok, os := I.os, bare := I.bare, base := I.base, loc := I.loc, cell := I.cell, free := I.free, freeC := I.freeC, hok := I.hok, len := I.len
    pin := fun q hq => I.pin q (List.mem_append_left more hq) }
end

/-! ### the tests of the clauses -/
/-- the clause's test answers b for exceptions of the class cls -/
def Asks (X : Cx) (t : Expr) (cls : Value) (b : Bool) : Prop := ∀ (pins pn : List (Addr × Obj)) (σ : L2.St) (H : Hp) (s : Shared) (a : Addr) (oa : Obj) (Q : Bool → Shared → Prop) (E : Value → Shared → Prop),
  Inv (X.suite a pn) pins σ H s → s.heap.get? a = some oa → oa.cls = cls → (∀ g, (∀ b o, s.heap.get? b = some o → g.get? b = some o) → Q b { s with heap := g }) →
  wpAny (model X.prog X.w) (X.A.mark (some (.ref a))) (eval t X.env) (fun c s1 => wpAny (model X.prog X.w) (X.A.mark (some (.ref a))) (excMatches (.ref a) c) Q E s1) E s
section
variable {X : Cx} {cls : Value} {b : Bool} {p p1 p2 p3 p4 : Pos} {x1 x2 x3 x4 : Str} {c1 c2 c3 c4 : Value} {j : Nat}
theorem typeOf_here {M : Model} {h : Heap} {a : Addr} {oa : Obj} (e : h.get? a = some oa) (hc : oa.cls = cls) : PySem.W.Looks M h (typeOf (.ref a)) cls := fun _ _ _ _ k q => wpAny_typeOf_ref (k _ _ e) (by rw [hc]; exact q)
/-- the name of a class -/
structure NameC (X : Cx) (x : Str) (c : Value) : Prop where
  gl : Gl X x
  mg : X.mg x = some c
  db : (x == ("__debug__" : Str)) = false := by decide
theorem asks1 (n1 : NameC X x1 c1) (hx : PySem.W.exmOne X.K cls c1 = some b) : Asks X (.Name x1 p1) cls b := fun pins pn σ H s a oa Q E I e hc q =>
  ld_glob (X := X.suite a pn) I n1.gl n1.mg ((PySem.W.exm_one I.kIn (typeOf_here e hc) hx).here (q s.heap fun _ _ z => z)) n1.db
theorem asks2 (n1 : NameC X x1 c1) (n2 : NameC X x2 c2) (hx : PySem.W.exmAny X.K cls [c1, c2] = some b) : Asks X (.Tuple [.Name x1 p1, .Name x2 p2] j p) cls b := fun pins pn σ H s a oa Q E I e hc q => by
  refine wpAny_Tuple (wpAny_items_cons (ld_glob (X := X.suite a pn) I n1.gl n1.mg (wpAny_items_cons (ld_glob (X := X.suite a pn) I n2.gl n2.mg (wpAny_items_nil ⟨by size_fits, ?_⟩) n2.db)) n1.db))
  have k : ∀ b o, s.heap.get? b = some o → (s.heap.push { cls := .type "tuple", data := .seq [c1, c2].toArray }).get? b = some o := fun _ _ => Heap.get?_push_of_some _
  exact (PySem.W.exm_tup2 (I.kIn.keeps k) (typeOf_here (k _ _ e) hc) (Heap.get?_push_size s.heap rfl) hx).here (q _ k)
theorem asks3 (n1 : NameC X x1 c1) (n2 : NameC X x2 c2) (n3 : NameC X x3 c3) (hx : PySem.W.exmAny X.K cls [c1, c2, c3] = some b) : Asks X (.Tuple [.Name x1 p1, .Name x2 p2, .Name x3 p3] j p) cls b := fun pins pn σ H s a oa Q E I e hc q => by
  refine wpAny_Tuple (wpAny_items_cons (ld_glob (X := X.suite a pn) I n1.gl n1.mg (wpAny_items_cons (ld_glob (X := X.suite a pn) I n2.gl n2.mg (wpAny_items_cons (ld_glob (X := X.suite a pn) I n3.gl n3.mg (wpAny_items_nil ⟨by size_fits, ?_⟩) n3.db)) n2.db)) n1.db))
  have k : ∀ b o, s.heap.get? b = some o → (s.heap.push { cls := .type "tuple", data := .seq [c1, c2, c3].toArray }).get? b = some o := fun _ _ => Heap.get?_push_of_some _
  exact (PySem.W.exm_tup3 (I.kIn.keeps k) (typeOf_here (k _ _ e) hc) (Heap.get?_push_size s.heap rfl) hx).here (q _ k)
theorem asks4 (n1 : NameC X x1 c1) (n2 : NameC X x2 c2) (n3 : NameC X x3 c3) (n4 : NameC X x4 c4) (hx : PySem.W.exmAny X.K cls [c1, c2, c3, c4] = some b) : Asks X (.Tuple [.Name x1 p1, .Name x2 p2, .Name x3 p3, .Name x4 p4] j p) cls b := fun pins pn σ H s a oa Q E I e hc q => by
  refine wpAny_Tuple (wpAny_items_cons (ld_glob (X := X.suite a pn) I n1.gl n1.mg (wpAny_items_cons (ld_glob (X := X.suite a pn) I n2.gl n2.mg (wpAny_items_cons (ld_glob (X := X.suite a pn) I n3.gl n3.mg (wpAny_items_cons (ld_glob (X := X.suite a pn) I n4.gl n4.mg (wpAny_items_nil ⟨by size_fits, ?_⟩) n4.db)) n3.db)) n2.db)) n1.db))
  have k : ∀ b o, s.heap.get? b = some o → (s.heap.push { cls := .type "tuple", data := .seq [c1, c2, c3, c4].toArray }).get? b = some o := fun _ _ => Heap.get?_push_of_some _
  exact (PySem.W.exm_tup4 (I.kIn.keeps k) (typeOf_here (k _ _ e) hc) (Heap.get?_push_size s.heap rfl) hx).here (q _ k)
end

/-! ### the clauses by their functions -/
/-- what is done about an exception of the class c with the fields fs -/
abbrev HT := Nat → List D → ST
/-- the name of a clause goes -/
def goneO (i : Nat) : O → O
  | .nx μ m => .nx (μ.set i none) m
  | .bk μ m => .bk (μ.set i none) m
  | .ct μ m => .ct (μ.set i none) m
  | .ret d m => .ret d m
  | .err .. => .bad
  | .bad => .bad
def calmO : O → O
  | .err .. => .bad
  | o => o
def hdN : HT := fun c fs μ m => .err c fs μ m
def hdAs (n : Nat) (hit : Nat → Bool) (i : Nat) (f : ST) (g : HT) : HT := fun c fs μ m => if c < n then (if hit c = true then goneO i (f (μ.set i (some (.exc c fs))) m) else g c fs μ m) else .bad
def hdOnly (n : Nat) (hit : Nat → Bool) (f : ST) (g : HT) : HT := fun c fs μ m => if c < n then (if hit c = true then calmO (f μ m) else g c fs μ m) else .bad
def tryS (f : ST) (g : HT) : ST := fun μ m => match f μ m with
  | .err c fs μ1 m1 => g c fs μ1 m1
  | o => o
/-- no exception leaves -/
def WNo : WX := fun _ _ _ _ => False
theorem takes_no {X : Cx} : Takes X WNo := fun _ _ ⟨_, _, _, _, _, _, _, _, _, _, _, _, _, _, _, _, w⟩ => w.elim
structure HdOk (X : Cx) (T : Tab) (W : WX) (hds : List ExceptHandler) (g : HT) : Prop where
  run : ∀ (pins : List (Addr × Obj)) (σ : L2.St) (H : Hp) (s : Shared) (a : Addr) (d : Option Addr) (B : Heap) (si : Shared) (Dn : Ends) (ρ : List Addr) (m : S) (μ : Env') (c : Nat) (fs : List D),
    Down X pins σ H s a (.ref (T.cls c)) d B si → StOk T ρ m H → EnvOk T ρ H μ σ → ExcIs T ρ H c fs (.ref (T.cls c)) d → PoS T ρ H (g c fs μ m) Dn W →
    wpAny (model X.prog X.w) X.A (handleBy (.ref a) X.env hds) (SP X pins Dn) X.xe s
section
variable {X : Cx} {T : Tab} {W : WX} {pos pos' np : Pos}
theorem hd_nil (hs : X.stack = X.env :: X.outer) (hf : X.env.frame = some X.env.locals) (tk : Takes X W) : HdOk X T W [] hdN := ⟨fun pins σ H s a d B si Dn ρ m μ c fs F st ev x h => by
  refine wpAny_handleBy_nil ?_
  obtain ⟨_, _, _, oa, ua, tb, oT, ts, e1, _, e2, e3, _⟩ := id F.fly
  have away : wpAny (model X.prog X.w) X.A (setFlight (.ref a) X.env.frame) (fun _ s4 => wpAny (model X.prog X.w) X.A (throw (.ref a) : Sem Flow) (SP X pins Dn) X.xe s4) X.xe s := by
    rw [hf]
    exact HandSPX.setFlight_upZ F.fly fun g hg up => wpAny_throw (tk _ _ ⟨a, B, si, pins, σ, H, _, d, rfl, F.inv, F.grd, F.up.trans up, .inr (.inr (hs ▸ hg)), F.na, F.os, F.bare, h ρ H σ _ d (.refl _ _) st ev x⟩)
  unfold PySem.passOn
  refine wpAny_bind (wpAny_field e1 e2 e3 ?_)
  rw [if_neg (by simp : ¬ (Value.ref tb == Value.none) = true)]
  first
    | exact wpAny_bind away
    | exact wpAny_bind (wpAny_pure (wpAny_bind away))⟩
theorem hd_only {t : Expr} {b0 : Stmt} {suite : List Stmt} {rest : List ExceptHandler} {n : Nat} {hit : Nat → Bool} {f : ST} {g : HT} (hs : X.stack = X.env :: X.outer) (hf : X.env.frame = some X.env.locals)
    (ask : ∀ c, c < n → Asks X t (.ref (T.cls c)) (hit c)) (hb : ∀ (a : Addr) (pn : List (Addr × Obj)), PSs (X.suite a pn) (b0 :: suite) (TDS T WNo f)) (hr : HdOk X T W rest g) :
    HdOk X T W (.ExceptHandler (some t) none (b0 :: suite) pos' :: rest) (hdOnly n hit f g) := ⟨fun pins σ H s a d B si Dn ρ m μ c fs F st ev x h => by
  unfold hdOnly at h
  split at h
  · rename_i hc
    obtain ⟨oa, ua, e1, ⟨e2, _⟩, e3⟩ := F.fly.there
    refine wpAny_handleBy_cons (codeAny_handlers_test (ask c hc _ _ _ _ _ a oa _ _ (inv_into F.here a) e1 e2 fun g1 k => ?_)) (by intro q; cases q)
    have F1 := F.grown k
    cases hh : hit c with
    | false =>
      rw [hh] at h
      exact hr.run pins σ H _ a d B si Dn ρ m μ c fs F1 st ev x h
    | true =>
      rw [hh, if_pos rfl] at h
      refine codeAny_handlers_suite (HandSPX.lands_againZ F1.fly fun g2 fly2 up2 => ?_)
      have F2 := F1.slots up2 fly2
      have ok := F2.here.ok
      have go : TDS T WNo f Dn σ H := ⟨ρ, m, μ, st, ev, by
        cases z : f μ m with
        | err _ _ _ _ => rw [z] at h; exact h.elim
        | bad => rw [z] at h; exact h.elim
        | nx _ _ => rw [z] at h; exact h
        | bk _ _ => rw [z] at h; exact h
        | ct _ _ => rw [z] at h; exact h
        | ret _ _ => rw [z] at h; exact h⟩
      refine wpAny_mono ((hb a (X.pn ++ pins)).run [] _ σ H Dn (inv_into F2.here a) go) (fun fl s3 q => ?_) fun _ _ z => z.elim
      cases fl with
      | next => obtain ⟨σ3, H3, J, q⟩ := q; exact ⟨σ3, H3, inv_outof ok J, q⟩
      | brk => obtain ⟨σ3, H3, J, q⟩ := q; exact ⟨σ3, H3, inv_outof ok J, q⟩
      | cont => obtain ⟨σ3, H3, J, q⟩ := q; exact ⟨σ3, H3, inv_outof ok J, q⟩
      | ret u => obtain ⟨v, σ3, H3, J, r, q⟩ := q; exact ⟨v, σ3, H3, inv_outof ok J, r, q⟩
  · exact h.elim⟩
theorem hd_as {t : Expr} {x : Str} {i : Nat} {b0 : Stmt} {suite : List Stmt} {rest : List ExceptHandler} {n : Nat} {hit : Nat → Bool} {f : ST} {g : HT} (hs : X.stack = X.env :: X.outer) (hf : X.env.frame = some X.env.locals)
    (hx : X.ex = []) (hN : X.N.Nodup) (hi : X.N[i]? = some x) (hln : X.env.kindOf x = some .local)
    (ask : ∀ c, c < n → Asks X t (.ref (T.cls c)) (hit c)) (hb : ∀ (a : Addr) (pn : List (Addr × Obj)), PSs (X.suite a pn) (b0 :: suite) (TDS T WNo f)) (hr : HdOk X T W rest g) :
    HdOk X T W (.ExceptHandler (some t) (some x) (b0 :: suite) pos' :: rest) (hdAs n hit i f g) := ⟨fun pins σ H s a d B si Dn ρ m μ c fs F st ev ⟨_, xs, ex2, ex3, ex4⟩ h => by
  unfold hdAs at h
  split at h
  · rename_i hc
    obtain ⟨oa, ua, e1, ⟨e2, _⟩, e3⟩ := F.fly.there
    refine wpAny_handleBy_cons (codeAny_handlers_test (ask c hc _ _ _ _ _ a oa _ _ (inv_into F.here a) e1 e2 fun g1 k => ?_)) (by intro q; cases q)
    have F1 := F.grown k
    cases hh : hit c with
    | false =>
      rw [hh] at h
      exact hr.run pins σ H _ a d B si Dn ρ m μ c fs F1 st ev ⟨rfl, xs, ex2, ex3, ex4⟩ h
    | true =>
      rw [hh, if_pos rfl] at h
      refine codeAny_handlers_suite_as (HandSPX.lands_againZ F1.fly fun g2 fly2 up2 => ?_)
      have F2 := F1.slots up2 fly2
      have ok := F2.here.ok
      have l : Le ρ H ρ (upd H a (ExcO a (T.cls c) d)) := .new F2.na
      have st2 : StOk T ρ m (upd H a (ExcO a (T.cls c) d)) := st.new F2.na
      have val : Is T ρ (upd H a (ExcO a (T.cls c) d)) (.exc c fs) (.ref a) := .exc upd_same (st.free F2.na) (ex2.le l) ex3 (ex4.elim .inl fun ⟨dx, y1, y2, y3⟩ => .inr ⟨dx, y1, l.nin y3 y2, l.keep y3 y2⟩)
      refine store_ok (X := X.suite a (X.pn ++ pins)) (v := .ref a) (inv_into (F2.held hs hf hx) a) hN hi (.inl hln) rfl (fun s3 J3 => ?_) (.inr hln)
      let D2 : Ends := { nx := fun σ' H' => Dn.nx (σ'.set i none) H', rt := Dn.rt, bk := fun σ' H' => Dn.bk (σ'.set i none) H', ct := fun σ' H' => Dn.ct (σ'.set i none) H' }
      have go : TDS T WNo f D2 (σ.set i (some (.ref a))) (upd H a (ExcO a (T.cls c) d)) := ⟨ρ, m, μ.set i (some (.exc c fs)), st2, (ev.le l).set val i, by
        have h := PoS.le h l
        cases z : f (μ.set i (some (.exc c fs))) m with
        | err _ _ _ _ => rw [z] at h; exact h.elim
        | bad => rw [z] at h; exact h.elim
        | nx _ _ => rw [z] at h; exact fun ρ4 H4 σ4 l4 s4 e4 => h ρ4 H4 _ l4 s4 (e4.clear i)
        | bk _ _ => rw [z] at h; exact fun ρ4 H4 σ4 l4 s4 e4 => h ρ4 H4 _ l4 s4 (e4.clear i)
        | ct _ _ => rw [z] at h; exact fun ρ4 H4 σ4 l4 s4 e4 => h ρ4 H4 _ l4 s4 (e4.clear i)
        | ret _ _ => rw [z] at h; exact h⟩
      refine wpAny_mono ((hb a (X.pn ++ pins)).run [] _ _ _ D2 J3 go) (fun fl s4 q => ?_) fun _ _ z => z.elim
      cases fl with
      | next => obtain ⟨σ3, H3, J, q⟩ := q; exact gone_ok (inv_outof ok J) hN hi hln fun s5 J5 => ⟨_, H3, J5, q⟩
      | brk => obtain ⟨σ3, H3, J, q⟩ := q; exact gone_ok (inv_outof ok J) hN hi hln fun s5 J5 => ⟨_, H3, J5, q⟩
      | cont => obtain ⟨σ3, H3, J, q⟩ := q; exact gone_ok (inv_outof ok J) hN hi hln fun s5 J5 => ⟨_, H3, J5, q⟩
      | ret u => obtain ⟨v, σ3, H3, J, r, q⟩ := q; exact gone_ok (inv_outof ok J) hN hi hln fun s5 J5 => ⟨v, _, H3, J5, r, q⟩
  · exact h.elim⟩
/-- try: body; the clauses -/
def WTry (T : Tab) (W : WX) (g : HT) (Dn : Ends) : WX := fun cls d σ H => ∃ ρ m μ c fs, StOk T ρ m H ∧ EnvOk T ρ H μ σ ∧ ExcIs T ρ H c fs cls d ∧ PoS T ρ H (g c fs μ m) Dn W
theorem sd_try {body : List Stmt} {h0 : ExceptHandler} {hds : List ExceptHandler} {f : ST} {g : HT} (hs : X.stack = X.env :: X.outer) (hf : X.env.frame = some X.env.locals)
    (hb : ∀ (W' : WX) (pn : List (Addr × Obj)) (xe : Value → Shared → Prop), Takes (X.tr pn xe) W' → PassesOwn (model X.prog X.w) X.A X.env xe → PSs (X.tr pn xe) body (TDS T W' f))
    (hh : HdOk X T W (h0 :: hds) g) : PS X (.Try body (h0 :: hds) [] [] pos) (TDS T W (tryS f g)) := ⟨fun pins s σ H Dn I ⟨ρ, m, μ, st, ev, h⟩ => by
  have ok := I.ok
  have frm : X.A.frames = some (X.env :: X.outer) := ok.frames.trans (congrArg some hs)
  let out : Value → Shared → Prop := fun u s1 => wpAny (model X.prog X.w) X.A (noteFrame u X.env) (fun _ s2 => wpAny (model X.prog X.w) X.A (setFlight u none) (fun _ s3 => wpAny (model X.prog X.w) X.A (handleBy u X.env (h0 :: hds)) (SP X pins Dn) X.xe s3) X.xe s2) X.xe s1
  have tk2 : Takes (X.tr (X.pn ++ pins) out) (WTry T W g Dn) := fun u s' q => by
    obtain ⟨a, B, si, more, σ1, H1, cls, d, rfl, J, grd, up, sky, na, os, bare, ρ1, m1, μ1, c, fs, st1, ev1, x1, h1⟩ := q
    have sky2 : Sky B (X.env :: X.outer) a (Zc cls d) X.env.locals s'.heap := hs ▸ sky
    refine Sky.land Zc.steady frm hf sky2 fun g3 fly3 up3 => ?_
    obtain ⟨rfl, y⟩ := id x1
    exact hh.run pins σ1 H1 _ a d B si Dn ρ1 m1 μ1 c fs ⟨J.ofTry ok, grd, up.trans up3, fly3, na, os, bare⟩ st1 ev1 x1 h1
  have start : TDS T (WTry T W g Dn) f Dn σ H := ⟨ρ, m, μ, st, ev, by
    unfold tryS at h
    cases z : f μ m with
    | err c fs μ1 m1 => rw [z] at h; exact fun ρ1 H1 σ1 cls d l s1 e1 x1 => ⟨ρ1, m1, μ1, c, fs, s1, e1, x1, PoS.le h l⟩
    | bad => rw [z] at h; exact h
    | nx _ _ => rw [z] at h; exact h
    | bk _ _ => rw [z] at h; exact h
    | ct _ _ => rw [z] at h; exact h
    | ret _ _ => rw [z] at h; exact h⟩
  have run := (hb (WTry T W g Dn) (X.pn ++ pins) out tk2 PassesOwn.looking).run [] s σ H Dn (I.toTry _) start
  refine wpAny_Try_except (wpAny_mono run (fun fl s1 q => ?_) fun _ _ z => z)
  cases fl with
  | next => obtain ⟨σ1, H1, J, q⟩ := q; exact wpAny_execs_nil ⟨σ1, H1, J.ofTry ok, q⟩
  | brk => obtain ⟨σ1, H1, J, q⟩ := q; exact ⟨σ1, H1, J.ofTry ok, q⟩
  | cont => obtain ⟨σ1, H1, J, q⟩ := q; exact ⟨σ1, H1, J.ofTry ok, q⟩
  | ret u => obtain ⟨v, σ1, H1, J, r, q⟩ := q; exact ⟨v, σ1, H1, J.ofTry ok, r, q⟩⟩
end
end DL
end

section
set_option Elab.async false
set_option maxRecDepth 100000
set_option maxHeartbeats 4000000
set_option linter.all false
/-! D17: lambdas handed to a def that calls them. -/
namespace DL
open PySem PySem.Spec PyProof.Rows L2

/-! ### the lambda's names -/
/-- captured names, globals, and names of its own that its maker has not -/
structure LamOk (sc scope : Scope) (N : List Str) : Prop where
  kind : scope.kind = .function
  co : scope.isCoroutine = false
  gen : scope.isGenerator = false
  nocell : ∀ y ∈ scope.names, y.2 ≠ .cell
  own : ∀ y ∈ scope.names, y.2 = .local → y.1 ∉ N
  free : ∀ y ∈ scope.names, y.2 = .free → sc.names.lookup y.1 = some .cell ∨ sc.names.lookup y.1 = some .free
def lamOkB (sc scope : Scope) (N : List Str) : Bool := (decide (scope.kind = .function) && !scope.isCoroutine && !scope.isGenerator) &&
  scope.names.all fun y => match y.2 with
    | .cell => false
    | .local => !(N.contains y.1)
    | .free => decide (sc.names.lookup y.1 = some .cell) || decide (sc.names.lookup y.1 = some .free)
    | _ => true
theorem lamOk_by {sc scope : Scope} {N : List Str} (h : lamOkB sc scope N = true) : LamOk sc scope N := by
  unfold lamOkB at h
  rw [Bool.and_eq_true, Bool.and_eq_true, Bool.and_eq_true] at h
  obtain ⟨⟨⟨h1, h2⟩, h3⟩, h4⟩ := h
  have all := List.all_eq_true.mp h4
  refine ⟨of_decide_eq_true h1, by simpa using h2, by simpa using h3, fun y hy e => ?_, fun y hy e => ?_, fun y hy e => ?_⟩
  · have := all y hy; rw [e] at this; cases this
  · have := all y hy; rw [e] at this; simpa using this
  · have := all y hy; rw [e] at this; simpa using this
theorem LamOk.cells {X : Cx} {scope : Scope} {N : List Str} (L : LamOk X.env.scope scope N) (ok : X.Ok) : ∀ y ∈ scope.names, y.2 = .free → ∃ c, X.env.cells.lookup y.1 = some c := fun y hy e =>
  ok.has _ ((L.free y hy e).imp id id)

/-! ### the lambda is made -/
/-- its defaults -/
def DflAt (H : Hp) (stk : List Env) (h : Heap) (dV : Value) (dvs : List Value) : Prop := (dvs = [] ∧ dV = .none) ∨ ∃ t, dV = .ref t ∧ h.get? t = some (PySem.W.kdv_tup dvs) ∧ H t = none ∧ t ∉ frs stk
abbrev lamO (X : Cx) (params : Arguments) (body : Expr) (scope : Scope) (dV doc pm : Value) (c' : Addr) (ctv : Value) : Obj :=
  PySem.W.kdv_obj "<lambda>" (X.env.qual ++ "<lambda>") params (.expr body) scope (cloFrom X.env.cells scope.names []) dV doc pm c' ctv
section
variable {X : Cx} {pins : List (Addr × Obj)} {σ : L2.St} {H HZ : Hp} {s s1 : Shared}
theorem not_frame (I : Inv X pins σ H s) {f : Addr} (hf : s.heap.objs.size ≤ f) : f ∉ frs X.stack := fun z => by
  rcases List.mem_cons.mp (I.stkSub _ z) with e | e
  · exact absurd I.lt (by rw [← e]; exact Nat.not_lt.mpr hf)
  · exact I.nofs hf e
theorem lam_tail {T : List (Addr × Str)} {c P : Addr} {params : Arguments} {body : Expr} {scope : Scope} {pos : Pos} {dV : Value} {E : Value → Shared → Prop} {Q : Value → Shared → Prop} (I : Inv X pins σ H s) (TB : LamX.TabB X.base X.mg c P) (hcode : X.env.code = .ref c)
    (hm : (P, X.env.qual ++ "<lambda>") ∈ T) (hu : ∀ q ∈ T, q.1 = P → q.2 = X.env.qual ++ "<lambda>") (tabs : LamX.Tabs T H) (free : ∀ y ∈ scope.names, y.2 = .free → ∃ c, X.env.cells.lookup y.1 = some c)
    (h : ∀ (f c' : Addr) (doc pm ctv : Value) (H1 : Hp) (s' : Shared), Inv X pins σ H1 s' → LamX.ExtN H H1 → LamX.Tabs T H1 → (∀ b o, s.heap.get? b = some o → H b = none → s'.heap.get? b = some o ∧ H1 b = none) →
      s'.heap.get? f = some (lamO X params body scope dV doc pm c' ctv) → H1 f = none → f ∉ frs X.stack → H1 c' = some (LamX.CodeO c' (X.env.qual ++ "<lambda>")) → Q (.ref f) s') :
    wpAny (model X.prog X.w) X.A (makeTail "<lambda>" (X.env.qual ++ "<lambda>") params (.expr body) scope X.env dV .none none pos pos.line) Q E s := by
  obtain ⟨ps, hP, tri, told⟩ := tabs _ hm
  have hPh : s.heap.get? P = some { cls := .none, data := .fields ps } := I.hok P _ hP
  have glob := I.mod.glob.keeps I.bk
  cases seek : codeAmong pos ps.toList with
  | some cv =>
    obtain ⟨c', rfl, hc'⟩ := told pos cv seek
    refine PySem.W.kdv_makeTailHit (mg := X.mg) (c := c) (P := P) (ps := ps) (closure_ok free) I.ok.glob glob hcode (TB.code.keeps I.bk) hPh tri seek (TB.bm.keeps I.bk) fun ctv doc g tk k sz => ?_
    have kk : ∀ b o, s.heap.get? b = some o → (g.push (lamO X params body scope dV doc ((X.mg "__name__").getD .none) c' ctv)).get? b = some o := fun b o e => Heap.get?_push_of_some _ (k b o e)
    exact h g.objs.size c' doc _ ctv H _ (I.kept (t' := tk) kk) (LamX.ExtN.refl H) tabs (fun b o e n => ⟨kk b o e, n⟩) (Heap.get?_push_size _ rfl) (I.hok.fresh sz) (not_frame I sz) hc'
  | none =>
    refine PySem.W.kdv_makeTail (mg := X.mg) (c := c) (P := P) (ps := ps) (closure_ok free) I.ok.glob glob hcode (TB.code.keeps I.bk) hPh tri seek TB.gP (TB.bm.keeps I.bk) fun c' ctv doc g tk k low lt rec tab => ?_
    obtain ⟨c2, oc, vs, t, ec, hoc, hd, hv⟩ := rec
    cases ec
    have sz : s.heap.objs.size ≤ g.objs.size := Nat.le_trans low (Nat.le_of_lt lt)
    have nC : H c' = none := I.hok.fresh low
    have J := LamX.inv_table (q := X.env.qual ++ "<lambda>") (t' := tk) (more := #[rawInt pos.line, rawInt pos.col, .ref c']) (h' := g.push (lamO X params body scope dV doc ((X.mg "__name__").getD .none) c' ctv)) I hP
      (fun b o n e => Heap.get?_push_of_some _ (k b o n e)) (Heap.get?_push_of_some _ tab) low ⟨oc, vs, t, Heap.get?_push_of_some _ hoc, hd, hv⟩
    have ext : LamX.ExtN H (upd (upd H P (.tbl (ps ++ #[rawInt pos.line, rawInt pos.col, .ref c']))) c' (LamX.CodeO c' (X.env.qual ++ "<lambda>"))) := fun b o e n => by
      have nP : b ≠ P := fun z => n ps (by rw [z, hP] at e; exact (Option.some.inj e).symm)
      rw [upd_ne (ne_of_none e nC), upd_ne nP]; exact e
    have asL : (ps ++ #[rawInt pos.line, rawInt pos.col, .ref c']).toList = ps.toList ++ [rawInt pos.line, rawInt pos.col, .ref c'] := by simp
    refine h g.objs.size c' doc _ ctv _ _ J ext (fun q hq => ?_) (fun b o e n => ?_) (Heap.get?_push_size _ rfl) ?_ (not_frame I sz) upd_same
    · by_cases hb : q.1 = P
      · rw [hu q hq hb, hb]
        refine ⟨_, by rw [upd_ne (ne_of_none hP nC), upd_same], by rw [asL]; exact PySem.TriplesOk_snoc _ _ _ _ tri, fun p' cv e => ?_⟩
        rw [asL] at e
        rcases LamX.among_app _ tri e with z | z
        · obtain ⟨c0, e1, e2⟩ := told p' cv z
          exact ⟨c0, e1, ext _ _ e2 LamX.codeO_ne⟩
        · exact ⟨c', z, upd_same⟩
      · obtain ⟨qs, a1, a2, a3⟩ := tabs q hq
        refine ⟨qs, ?_, a2, fun p' cv e => ?_⟩
        · rw [upd_ne (ne_of_none a1 nC), upd_ne hb]; exact a1
        · obtain ⟨c0, e1, e2⟩ := a3 p' cv e
          exact ⟨c0, e1, ext _ _ e2 LamX.codeO_ne⟩
    · have n1 : b ≠ P := fun z => by rw [z, hP] at n; cases n
      have n2 : b ≠ c' := fun z => Nat.lt_irrefl _ (Nat.lt_of_lt_of_le (z ▸ Heap.lt_size e) low)
      exact ⟨Heap.get?_push_of_some _ (k b o n1 e), by rw [upd_ne n2, upd_ne n1]; exact n⟩
    · have n1 : g.objs.size ≠ c' := Nat.ne_of_gt lt
      have n2 : g.objs.size ≠ P := fun z => Nat.lt_irrefl _ (Nat.lt_of_lt_of_le (z ▸ Heap.lt_size hPh) sz)
      rw [upd_ne n1, upd_ne n2]; exact I.hok.fresh sz
theorem lam_value {T : List (Addr × Str)} {c P : Addr} {params : Arguments} {body : Expr} {scope : Scope} {pos : Pos} {ds : List (Sem Value)} {Good : List Value → Prop} {E : Value → Shared → Prop} {Q : Value → Shared → Prop} (I : Inv X pins σ H s) (TB : LamX.TabB X.base X.mg c P) (hcode : X.env.code = .ref c)
    (hm : (P, X.env.qual ++ "<lambda>") ∈ T) (hu : ∀ q ∈ T, q.1 = P → q.2 = X.env.qual ++ "<lambda>") (tabs : LamX.Tabs T H) (free : ∀ y ∈ scope.names, y.2 = .free → ∃ c, X.env.cells.lookup y.1 = some c)
    (hdef : defaultsOf params X.env = (ds, [])) (hds : ∀ (E : Value → Shared → Prop) (Q : List Value → Shared → Prop) (s : Shared), (∀ dvs tk, Good dvs → Q dvs { s with toks := tk }) → wpAny (model X.prog X.w) X.A (evalAll ds) Q E s)
    (h : ∀ (dvs : List Value) (f c' : Addr) (dV doc pm ctv : Value) (H1 : Hp) (s' : Shared), Good dvs → Inv X pins σ H1 s' → LamX.ExtN H H1 → LamX.Tabs T H1 → s'.heap.get? f = some (lamO X params body scope dV doc pm c' ctv) → H1 f = none → f ∉ frs X.stack → DflAt H1 X.stack s'.heap dV dvs →
      H1 c' = some (LamX.CodeO c' (X.env.qual ++ "<lambda>")) → Q (.ref f) s') : wpAny (model X.prog X.w) X.A (eval (.Lambda params body scope pos) X.env) Q E s := by
  rw [arm_eval_Lambda, hdef]
  show wpAny _ X.A (do let dv ← evalAll ds; let kdv ← holding dv (evalAllOpt []); makeFunction "<lambda>" (X.env.qual ++ "<lambda>") params (.expr body) scope X.env dv kdv [] pos pos.line) Q E s
  refine wpAny_bind (hds _ _ _ fun dvs tk good => wpAny_bind (wpAny_holding (wpAny_pure ?_)))
  have I0 : Inv X pins σ H { s with toks := tk } := I.tok tk
  rw [makeFunction_eq]
  simp only [List.zip_nil_right, List.filterMap_nil, List.isEmpty_nil, if_true, pure_bind]
  cases dvs with
  | nil =>
    simp only [List.isEmpty_nil, if_true, pure_bind]
    exact lam_tail I0 TB hcode hm hu tabs free fun f c' doc pm ctv H1 s' I1 e1 t1 _ o1 n1 n2 hc => h [] f c' .none doc pm ctv H1 s' good I1 e1 t1 o1 n1 n2 (.inl ⟨rfl, rfl⟩) hc
  | cons d r =>
    simp only [List.isEmpty_cons, Bool.false_eq_true, if_false]
    refine wpAny_bind (wpAny_newTextTuple ?_)
    refine lam_tail (I0.kept (t' := tk) fun b o e => Heap.get?_push_of_some _ e) TB hcode hm hu tabs free fun f c' doc pm ctv H1 s' I1 e1 t1 kp o1 n1 n2 hc => h (d :: r) f c' _ doc pm ctv H1 s' good I1 e1 t1 o1 n1 n2 (.inr ⟨_, rfl, ?_⟩) hc
    obtain ⟨k1, k2⟩ := kp _ _ (Heap.get?_push_size s.heap rfl) (I.hok.fresh (Nat.le_refl _))
    exact ⟨k1, k2, not_frame I (Nat.le_refl _)⟩

/-! ### the lambda is called -/
theorem lam_inv {A : Around} {outer : List Env} {E : XK} {scope : Scope} {f c' : Addr} {g : Heap} {tk : Nat} {lm : Str → Option Value} (I : Inv X pins σ H s) (L : LamOk X.env.scope scope X.N) (e0 : Env0 X.prog X.w X.K X.mg X.base A outer s1 HZ) (hd : A.handled = none)
    (un : Un (frs X.stack) [] H HZ s.heap s1.heap) (ns : g.Ns s1.heap.objs.size lm) (k : ∀ b o, s1.heap.get? b = some o → g.get? b = some o) :
    Inv (LamX.lamCx X A outer s1 HZ E scope f c') [] σ HZ { s1 with heap := g, toks := tk } := by
  have have_ := L.cells I.ok
  have mine : ∀ {y c}, (cloFrom X.env.cells scope.names []).lookup y = some c → X.env.cells.lookup y = some c := fun {y c} e => by
    rcases cloFrom_mem (PySem.mem_of_lookup e) with z | ⟨h1, h2⟩
    · cases z
    · obtain ⟨c1, h3⟩ := have_ _ h1 rfl
      have h3 : X.env.cells.lookup y = some c1 := h3
      rw [h3] at h2
      have : c = c1 := h2
      rw [this]; exact h3
  have look : ∀ {y}, scope.names.lookup y = some .free → ∃ c, (cloFrom X.env.cells scope.names []).lookup y = some c := fun {y} e => mem_lookup (cloFrom_has (cells := X.env.cells) (acc := []) (PySem.mem_of_lookup e : (y, NameKind.free) ∈ scope.names))
  have cell : ∀ {c : Addr} {v : Option Value}, H c = none → s.heap.IsCell c v → g.IsCell c v := fun {c v} n ⟨o, e, d⟩ => by
    obtain ⟨sl, z⟩ := un.any e n List.not_mem_nil
    exact ⟨_, k _ _ z, d⟩
  have noex : ∀ b : Addr, b ∉ (LamX.lamCx X A outer s1 HZ E scope f c').ex := fun b => List.not_mem_nil
  have ok : (LamX.lamCx X A outer s1 HZ E scope f c').Ok := {
    mod := e0.mod, kind := L.kind, glob := rfl, blt := rfl, above := Nat.le_refl _
    inj := fun y z c e1 e2 => I.ok.inj y z c (mine e1) (mine e2)
    has := fun y hy => by
      rcases (show scope.names.lookup y = some .cell ∨ scope.names.lookup y = some .free from hy) with z | z
      · exact absurd rfl (L.nocell _ (PySem.mem_of_lookup z))
      · exact look z
    cab := fun y c z _ => by cases (show false = true from z)
    hd := fun _ => hd, frames := Around.frames_deeper e0.frames, stk := .inr ⟨rfl, rfl⟩, exf := fun b z => absurd z (noex b), bs := e0.bs, bsz := e0.bsz, noex := fun b _ _ => noex b
    exfs := fun b z => absurd z (noex b), funs := e0.funs, frf := e0.frf }
  refine { ok := ok, os := rfl, bare := e0.bare, base := Un.kept k, loc := ⟨lm, ns, fun i y v e1 e2 e3 => ?_⟩, cell := fun y c e => ?_, free := e0.hok.fresh (Nat.le_refl _), freeC := fun y c e => ?_, pin := fun q hq => ?_, hok := e0.hok.kept k, len := I.len }
  · rcases (show Vis scope y from e3) with z | z | z
    · exact absurd (List.mem_of_getElem? e1) (L.own _ (PySem.mem_of_lookup z) rfl)
    · exact absurd rfl (L.nocell _ (PySem.mem_of_lookup z))
    · obtain ⟨m, hn, hl⟩ := I.loc
      have fr := L.free _ (PySem.mem_of_lookup z) rfl
      have vis : Vis X.env.scope y := fr.elim (fun q => .inr (.inl q)) fun q => .inr (.inr q)
      obtain ⟨u, r, q⟩ := hl i y v e1 e2 vis
      obtain ⟨c2, h2⟩ := look z
      refine ⟨u, r, .inr ⟨.inr z, c2, h2, ?_⟩⟩
      have c1 := mine h2
      rcases q with ⟨q, _⟩ | ⟨_, c3, e', q⟩
      · have q : X.env.scope.names.lookup y = some .local := q
        rcases fr with w | w <;> rw [show X.env.scope.names.lookup y = _ from w] at q <;> cases q
      · rw [c1] at e'; cases e'
        exact cell (I.freeC y _ c1) q
  · obtain ⟨v, z⟩ := I.cell y c (mine e)
    exact ⟨v, cell (I.freeC y c (mine e)) z⟩
  · obtain ⟨v, o, z, _⟩ := I.cell y c (mine e)
    exact un.free c o z (I.freeC y c (mine e)) List.not_mem_nil
  · exact absurd (show q ∈ ([] : List (Addr × Obj)) ++ [] from hq) List.not_mem_nil
end
/-- the arguments of a call without any -/
def NoArgs (params : Arguments) (body : Expr) (scope : Scope) (dvs : List Value) (binds : List (Str × Value)) : Prop := ∀ (M : Model) (A : Around) (E : Value → Shared → Prop) (Q : List (Str × Value) → Shared → Prop) (s : Shared) (q : Str) (cl : List (Str × Addr)) (dV doc pm cv ctv : Value),
  ((dvs = [] ∧ dV = .none) ∨ ∃ t, dV = .ref t ∧ s.heap.get? t = some (PySem.W.kdv_tup dvs)) → Q binds s → wpAny M A (bindArgs (PySem.W.kdv_fn "<lambda>" q params (.expr body) scope cl dV doc pm cv ctv) ⟨[], []⟩) Q E s
theorem noArgs0 {body : Expr} {scope : Scope} : NoArgs ⟨[], [], none, [], [], none, []⟩ body scope [] [] := fun M A E Q s q cl dV doc pm cv ctv hd h => by
  rcases hd with ⟨_, rfl⟩ | ⟨t, rfl, ht⟩
  · exact wpAny_pure h
  · show wpAny M A (seqItems? (.ref t) >>= _) Q E s
    exact wpAny_bind (wpAny_seqItems ht rfl (wpAny_pure h))
theorem noArgs1 {x : Str} {an : Option Expr} {pa : Pos} {e : Expr} {v : Value} {body : Expr} {scope : Scope} : NoArgs ⟨[], [⟨x, an, pa⟩], none, [], [], none, [e]⟩ body scope [v] [(x, v)] := fun M A E Q s q cl dV doc pm cv ctv hd h => by
  rcases hd with ⟨z, _⟩ | ⟨t, rfl, ht⟩
  · cases z
  · show wpAny M A (seqItems? (.ref t) >>= _) Q E s
    exact wpAny_bind (wpAny_seqItems ht rfl (wpAny_pure (by simpa [List.lookup] using h)))
end DL
end

section
set_option Elab.async false
set_option maxRecDepth 100000
set_option maxHeartbeats 4000000
set_option linter.all false
/-! D18: defs that call what they get, by their functions; lambdas handed to them. -/
namespace DL
open PySem PySem.Spec PyProof.Rows L2
open Classical in
/-- x() of the lambda l, whose body does g -/
noncomputable def actE (i : Nat) (l : D) (g : S → R D) : E1 := fun μ m => if μ[i]? = some (some l) then g m else .bad
/-- what is known of a lambda while it is handed around: its maker's names, its code -/
def Hand (T : Tab) (μ : Env') (σ : L2.St) (c' : Addr) (q : Str) : List Addr → Hp → Prop := fun ρ H => EnvOk T ρ H μ σ ∧ H c' = some (LamX.CodeO c' q) ∧ c' ∉ ρ
theorem hand_mono {T : Tab} {μ : Env'} {σ : L2.St} {c' : Addr} {q : Str} : ∀ ρ H ρ' H', Le ρ H ρ' H' → Hand T μ σ c' q ρ H → Hand T μ σ c' q ρ' H' := fun ρ H ρ' H' l ⟨h1, h2, h3⟩ =>
  ⟨h1.le l, l.keep h2 h3 LamX.codeO_ne, l.nin h2 h3 LamX.codeO_ne⟩
section
variable {X : Cx} {pins : List (Addr × Obj)} {σ : L2.St} {H : Hp} {s : Shared} {T : Tab}
theorem pd_act {Eg : XK} {Ng : List Str} {qg : Str} {sg : Scope} {g f c' : Addr} {cdg dV doc pm ctv : Value} {params : Arguments} {body : Expr} {scope : Scope} {dvs : List Value} {binds : List (Str × Value)} {k i : Nat} {a : Str} {pn : List (Addr × Obj)} {xe : Value → Shared → Prop} {W : WX} {fe : E1} {μ : Env'} {p1 p2 : Pos}
    (I : Inv X pins σ H s) (L : LamOk X.env.scope scope X.N) (hf : s.heap.get? f = some (lamO X params body scope dV doc pm c' ctv)) (hfn : H f = none) (hfr : f ∉ frs X.stack) (hdf : DflAt H X.stack s.heap dV dvs) (na : NoArgs params body scope dvs binds) (bl : ∀ y ∈ binds, scope.names.lookup y.1 = some .local)
    (tk : Takes ((cxOf (L2.CX X.prog X.w) X.prog X.w X.K X.mg X.base Ng qg sg g cdg X.A X.stack s H Eg).tr pn xe) W) (rg : Rg (k + 1) (X.A.deeper (envOfC qg sg s.heap.objs.size g cdg)))
    (hbody : ∀ (A : Around) (outer : List Env) (s : Shared) (H : Hp) (E : XK), Rg k (A.deeper (LamX.lamEnv X scope s.heap.objs.size f c')) → Takes (LamX.lamCx X A outer s H E scope f c') (fun c d _ H => E c d H) → PassesOwn (model X.prog X.w) (A.deeper (LamX.lamEnv X scope s.heap.objs.size f c')) (LamX.lamEnv X scope s.heap.objs.size f c') (LamX.lamCx X A outer s H E scope f c').xe →
      PE (LamX.lamCx X A outer s H E scope f c') body (TD T (fun c d _ H => E c d H) fe))
    (hN : Ng[i]? = some a) (hv : Vis sg a) (hd : (a == ("__debug__" : Str)) = false := by decide) (hcd : (a == ("__classdict__" : Str)) = false := by decide) :
    PE ((cxOf (L2.CX X.prog X.w) X.prog X.w X.K X.mg X.base Ng qg sg g cdg X.A X.stack s H Eg).tr pn xe) (.Call (.Name a p1) [] [] p2) (TD T W (actE i (.lam f (Hand T μ σ c' (X.env.qual ++ "<lambda>"))) (fe μ))) := ⟨fun more sZ σZ HZ Q IZ ⟨ρ, m, μZ, st, ev, h⟩ => by
  unfold actE at h
  by_cases slot : μZ[i]? = some (some (.lam f (Hand T μ σ c' (X.env.qual ++ "<lambda>"))))
  case neg => rw [if_neg slot] at h; exact h.elim
  rw [if_pos slot] at h
  obtain ⟨v, hs, r⟩ := ev.val i _ slot
  cases r with
  | lam mono hand =>
  obtain ⟨evm, hc, nc⟩ := hand
  refine wpAny_Call_Name_kw (thn ((pe_var (pos := p1) (i := i) hN hv hd hcd).run more sZ σZ HZ (fun v H1 => v = .ref f ∧ H1 = HZ) IZ ⟨.ref f, hs, rfl, rfl⟩) fun u s1 ⟨v, H1, I1, r1, q1⟩ => ?_)
  obtain ⟨rfl, rfl⟩ := q1
  obtain rfl : u = Value.ref f := r1
  have noex : ∀ b : Addr, b ∉ ([] : List Addr) := fun _ => List.not_mem_nil
  have of1 := I1.base.keep f _ hf hfn hfr (noex f)
  have hdf1 : (dvs = [] ∧ dV = .none) ∨ ∃ t, dV = .ref t ∧ s1.heap.get? t = some (PySem.W.kdv_tup dvs) := hdf.imp id fun ⟨t, e1, e2, e3, e4⟩ => ⟨t, e1, I1.base.keep t _ e2 e3 e4 (noex t)⟩
  obtain ⟨⟨oc, us, t, hoc, hdc, hvc⟩, _, _⟩ := I1.hok c' _ hc
  refine PySem.W.callWith_F0 ⟨_, _, _, _, of1⟩ ?_
  have run : codeAny (model X.prog X.w) (X.A.deeper (envOfC qg sg s.heap.objs.size g cdg)) (.call (.ref f) ⟨[], []⟩) (CR (L2.CX X.prog X.w) (envOfC qg sg s.heap.objs.size g cdg :: X.stack) X.prog X.w H1 s1 Q (WE W σZ)) s1 := by
    refine PySem.W.kla_callFunE rg.room.depth of1 rfl L.co L.gen rfl ⟨c', oc, us, t, rfl, hoc, hdc, hvc⟩ (na _ _ _ _ s1 _ _ dV doc pm (.ref c') ctv hdf1 ?_)
    refine wpAny_newFunctionEnv L.nocell bl (fun g1 ns same => ⟨I1.nolimit.fresh _ same, ?_⟩) L.kind
    show codeAny _ _ (.expr body (LamX.lamEnv X scope s1.heap.objs.size f c')) _ _
    have k1 : ∀ b o, s1.heap.get? b = some o → g1.get? b = some o := fun b o e => same.extBut b o (Nat.ne_of_lt (Heap.lt_size e)) (Heap.get?_push_of_some _ e)
    have J := lam_inv (E := WE W σZ) (f := f) (c' := c') (tk := s1.toks + binds.length) I L I1.env0 rg.room.hd I1.base ns k1
    refine PySem.W.kla_codeExpr (wpAny_mono ((hbody _ _ s1 H1 (WE W σZ) (rg.deeper _) (takes_of rfl rfl rfl rfl) (passes_of rfl)).run [] _ _ H1 Q J ⟨ρ, m, μ, st, evm, h⟩) (fun v s' q => ?_) fun e s' q => q)
    obtain ⟨v', H', J', rv, q⟩ := q
    exact ⟨v', H', J'.os, J'.bare, J'.base, J'.hok, rv, q⟩
  refine wpAny_call (codeAny_mono run fun r s' q => ?_)
  cases r with
  | error er => exact passAt tk σZ more H1 s1 er s' I1 q
  | ok fl => cases fl with
    | ret u => exact I1.after q
    | next => exact q.elim
    | brk => exact q.elim
    | cont => exact q.elim⟩
end

/-! ### defs that call what they get -/
/-- in the context Z, a() is a call of l -/
def Acts (Z : Cx) (T : Tab) (i : Nat) (a : Str) (l : D) (g : S → R D) : Prop := ∀ (pn : List (Addr × Obj)) (xe : Value → Shared → Prop) (W : WX) (p1 p2 : Pos), Takes (Z.tr pn xe) W → PE (Z.tr pn xe) (.Call (.Name a p1) [] [] p2) (TD T W (actE i l g))
abbrev FL := (S → R D) → D → S → R D
structure Gives (P : Program) (w : World) (K : PySem.W.Frag) (mg : Str → Option Value) (base : Heap) (T : Tab) (k : Nat) (x a : Str) (F : FL) : Prop where
  ex : ∃ (g : Addr) (cdg : Value) (sg : Scope) (Ng : List Str), mg x = some (.ref g) ∧ PySem.W.keepIn K (.ref g) = true ∧ Ng[0]? = some a ∧ Vis sg a ∧
    ∀ (A : Around) (outer : List Env) (s : Shared) (H : Hp) (u : Value) (v : V) (Q : VK) (E : XK) (ρ : List Addr) (m : S) (l : D) (gf : S → R D), Rg (k + 1) A → Env0 P w K mg base A outer s H → RelV v u →
      Acts (cxOf (L2.CX P w) P w K mg base Ng x sg g cdg A outer s H E) T 0 a l gf → StOk T ρ m H → Is T ρ H l v → PoD T ρ H (F gf l m) Q E →
      codeAny (model P w) A (.call (.ref g) ⟨[u], []⟩) (CR (L2.CX P w) outer P w H s Q E) s
theorem gives_d {P : Program} {w : World} {K : PySem.W.Frag} {mg : Str → Option Value} {base : Heap} {T : Tab} {k : Nat} {g : Addr} {x a : Str} {params : Arguments} {body : List Stmt} {scope : Scope} {dV kV doc pm cdv ct oc : Value} {an od : Option Addr} {osl : Array (Option Value)} {N : List Str} {Fb : (S → R D) → D → ST}
    (lk : K.lookup g = some ⟨oc, od, .func (PySem.W.fnOf x x params body scope dV kV doc pm an cdv ct), osl⟩) (hcd : PySem.W.codeIn K cdv x = true) (sc : FnScope N [a] scope) (hm : mg x = some (.ref g)) (kp : PySem.W.keepIn K (.ref g) = true) (h0 : N[0]? = some a) (hv : Vis scope a)
    (bd : Binds K (PySem.W.fnOf x x params body scope dV kV doc pm an cdv ct) [a] [])
    (hb : ∀ (A : Around) (outer : List Env) (s : Shared) (H : Hp) (E : XK) (l : D) (gf : S → R D), Rg k (A.deeper (envOfC x scope s.heap.objs.size g cdv)) → Takes (cxOf (L2.CX P w) P w K mg base N x scope g cdv A outer s H E) (WF E) →
      PassesOwn (model P w) (A.deeper (envOfC x scope s.heap.objs.size g cdv)) (envOfC x scope s.heap.objs.size g cdv) (cxOf (L2.CX P w) P w K mg base N x scope g cdv A outer s H E).xe →
      Acts (cxOf (L2.CX P w) P w K mg base N x scope g cdv A outer s H E) T 0 a l gf →
      PSs (cxOf (L2.CX P w) P w K mg base N x scope g cdv A outer s H E) body (TDS T (WF E) (Fb gf l))) : Gives P w K mg base T k x a fun gf l => runF N.length (Fb gf l) [l] :=
  ⟨g, cdv, scope, N, hm, kp, h0, hv, fun A outer s H u v Q E ρ m l gf rg e0 r act st isl h =>
    LamX.run_ofS (ps := [a]) (vs := [v]) (us := [u]) lk hcd sc rg.room e0 (bd s [u] (e0.mod.kin.keeps fun b o e => (e0.bs b o e).1) rfl) (.cons r .nil) rfl fun _ => by
      refine ⟨_, hb A outer s H E l gf (rg.deeper _) (takes_of rfl rfl rfl rfl) (passes_of rfl) act, ρ, m, _, st, start_env (N := N) (ds := [l]) (.cons isl .nil), ?_⟩
      unfold runF at h
      cases e : Fb gf l ([l].map some ++ List.replicate (N.length - [l].length) none) m with
      | nx μ' m' => rw [e] at h; exact fun ρ' H' σ' l s _ => h ρ' H' .non l s .non
      | ret d m' => rw [e] at h; exact h
      | bk μ' m' => rw [e] at h; exact h.elim
      | ct μ' m' => rw [e] at h; exact h.elim
      | err c fs μ' m' => rw [e] at h; exact fun ρ' H' σ' cls d l s _ x => h ρ' H' cls d l s x
      | bad => rw [e] at h; exact h.elim⟩
/-- x(lambda: e) -/
def lamF (F : FL) (fe : E1) : E1 := fun μ m => F (fe μ) .non m
section
variable {X : Cx} {T : Tab} {W : WX} {pos p lpos : Pos}
theorem pd_lam {x a : Str} {F : FL} {c P : Addr} {k kb : Nat} {params : Arguments} {body : Expr} {scope : Scope} {ds : List (Sem Value)} {Good : List Value → Prop} {bs : List Str} {fe : E1} (G : Gives X.prog X.w X.K X.mg X.base T k x a F) (blind : ∀ g l m, F g l m = F g .non m) (rg : Rg (max (k + 1) (kb + 2)) X.A) (tk : Takes X W)
    (hg : Gl X x) (TB : LamX.TabB X.base X.mg c P) (hcode : X.env.code = .ref c) (hm : (P, X.env.qual ++ "<lambda>") ∈ T.tabs) (hu : ∀ q ∈ T.tabs, q.1 = P → q.2 = X.env.qual ++ "<lambda>") (L : LamOk X.env.scope scope X.N)
    (hdef : defaultsOf params X.env = (ds, [])) (hds : ∀ (E : Value → Shared → Prop) (Q : List Value → Shared → Prop) (s : Shared), (∀ dvs tk, Good dvs → Q dvs { s with toks := tk }) → wpAny (model X.prog X.w) X.A (evalAll ds) Q E s) (na : ∀ dvs, Good dvs → NoArgs params body scope dvs (bs.zip dvs)) (bl : ∀ y ∈ bs, scope.names.lookup y = some .local)
    (hbody : ∀ (f c' : Addr) (A : Around) (outer : List Env) (s : Shared) (H : Hp) (E : XK), Rg kb (A.deeper (LamX.lamEnv X scope s.heap.objs.size f c')) → Takes (LamX.lamCx X A outer s H E scope f c') (fun c d _ H => E c d H) → PassesOwn (model X.prog X.w) (A.deeper (LamX.lamEnv X scope s.heap.objs.size f c')) (LamX.lamEnv X scope s.heap.objs.size f c') (LamX.lamCx X A outer s H E scope f c').xe →
      PE (LamX.lamCx X A outer s H E scope f c') body (TD T (fun c d _ H => E c d H) fe))
    (hdb : (x == ("__debug__" : Str)) = false := by decide) (hd : (a == ("__debug__" : Str)) = false := by decide) (hcd : (a == ("__classdict__" : Str)) = false := by decide) :
    PE X (.Call (.Name x p) [.Lambda params body scope lpos] [] pos) (TD T W (lamF F fe)) := ⟨fun pins s σ H Q I ⟨ρ, m, μ, st, ev, h⟩ => by
  obtain ⟨g, cdg, sg, Ng, hmg, kp, h0, hv, run⟩ := G.ex
  refine wpAny_Call_Name_kw (ld_glob I hg hmg ?_ hdb)
  refine PySem.W.callWith_K (h₀ := X.base) I.ok.mod.kin kp ?_ (by rfl) (by rfl)
  show wpAny _ _ (spliced ((false, eval (.Lambda params body scope lpos) X.env) :: backTo pos (starEach [] X.env))) _ _ s
  refine Calls.spliced_cons (lam_value I TB hcode hm hu st.tabs (L.cells I.ok) hdef hds fun dvs f c' dV doc pm ctv H1 s1 good I1 ext tabs of hfn hfr hdf hc => ?_)
  refine Calls.spliced_nil ⟨I1.kIn, ?_⟩
  have st1 : StOk T ρ m H1 := st.ext ext tabs
  have nc : c' ∉ ρ := fun z => by
    obtain ⟨u, e1, _, e2⟩ := st1.trk2 z
    rw [hc] at e1; cases e1
    exact e2 _ _ rfl
  have isl : Is T ρ H1 (.lam f (Hand T μ σ c' (X.env.qual ++ "<lambda>"))) (.ref f) := .lam hand_mono ⟨ev.le (Le.ext ext), hc, nc⟩
  have rg1 : Rg (k + 1) X.A := rg.mono (Nat.le_max_left _ _)
  have rg2 : Rg (kb + 2) X.A := rg.mono (Nat.le_max_right _ _)
  have go := run X.A X.stack s1 H1 (.ref f) (.ref f) Q (WE W σ) ρ m _ (fe μ) rg1 I1.env0 rfl
    (fun pn xe W2 p1 p2 tk2 => pd_act I1 L of hfn hfr hdf (na dvs good) (fun y hy => bl _ (List.of_mem_zip hy).1) tk2 (rg2.deeper _) (hbody f c') h0 hv hd hcd) st1 isl (by rw [blind]; exact Po.le h (Le.ext ext))
  refine wpAny_call (codeAny_mono go fun r s' q => ?_)
  cases r with
  | error er => exact passAt tk σ pins H1 s1 er s' I1 q
  | ok fl => cases fl with
    | ret u => exact I1.after q
    | next => exact q.elim
    | brk => exact q.elim
    | cont => exact q.elim⟩
end
/-- the defaults of a lambda: none, a number -/
theorem dfl0 {X : Cx} : ∀ (E : Value → Shared → Prop) (Q : List Value → Shared → Prop) (s : Shared), (∀ dvs tk, dvs = [] → Q dvs { s with toks := tk }) → wpAny (model X.prog X.w) X.A (evalAll []) Q E s := fun E Q s h => wpAny_evalAll_nil (h [] s.toks rfl)
theorem dfl1 {X : Cx} {i : Int} {j : Nat} {pos : Pos} : ∀ (E : Value → Shared → Prop) (Q : List Value → Shared → Prop) (s : Shared), (∀ dvs tk, (∃ t, dvs = [Value.int i t]) → Q dvs { s with toks := tk }) → wpAny (model X.prog X.w) X.A (evalAll [eval (.Constant (.int i) j pos) X.env]) Q E s := fun E Q s h =>
  wpAny_evalAll_cons (wpAny_Constant_int (wpAny_evalAll_nil (h _ _ ⟨_, rfl⟩)))
theorem na0 {body : Expr} {scope : Scope} : ∀ dvs, dvs = [] → NoArgs ⟨[], [], none, [], [], none, []⟩ body scope dvs (([] : List Str).zip dvs) := fun dvs h => by subst h; exact noArgs0
theorem na1 {x : Str} {an : Option Expr} {pa : Pos} {e : Expr} {i : Int} {body : Expr} {scope : Scope} : ∀ dvs, (∃ t, dvs = [Value.int i t]) → NoArgs ⟨[], [⟨x, an, pa⟩], none, [], [], none, [e]⟩ body scope dvs ([x].zip dvs) := fun dvs ⟨t, h⟩ => by subst h; exact noArgs1
/-! ### what is asked at once -/
theorem hit_by {K : PySem.W.Frag} {T : Tab} {n : Nat} {cs : List Value} {hit : Nat → Bool} (h : (List.range n).all (fun c => decide (PySem.W.exmAny K (.ref (T.cls c)) cs = some (hit c))) = true) : ∀ c, c < n → PySem.W.exmAny K (.ref (T.cls c)) cs = some (hit c) := fun c hc => of_decide_eq_true (all_c h c hc)
theorem hit1_by {K : PySem.W.Frag} {T : Tab} {n : Nat} {cv : Value} {hit : Nat → Bool} (h : (List.range n).all (fun c => decide (PySem.W.exmOne K (.ref (T.cls c)) cv = some (hit c))) = true) : ∀ c, c < n → PySem.W.exmOne K (.ref (T.cls c)) cv = some (hit c) := fun c hc => of_decide_eq_true (all_c h c hc)
def TBS (cs : List (Addr × Addr)) (mg : Str → Option Value) (base : Heap) : Prop := ∀ q ∈ cs, LamX.TabB base mg q.1 q.2
def onlyB (tabs : List (Addr × Str)) (P : Addr) (q : Str) : Bool := tabs.all fun x => !(decide (x.1 = P)) || decide (x.2 = q)
theorem only_by {tabs : List (Addr × Str)} {P : Addr} {q : Str} (h : onlyB tabs P q = true) : ∀ x ∈ tabs, x.1 = P → x.2 = q := fun x hx e => by
  have := List.all_eq_true.mp h x hx
  simpa [e] using this
end DL
end

section
set_option Elab.async false
set_option maxRecDepth 100000
set_option maxHeartbeats 4000000
set_option linter.all false
/-! D19: further built-in functions and methods. -/
namespace DL
open PySem PySem.Spec PyProof.Rows L2
/-- numbers alone -/
def intsOf : List D → Option (List Int)
  | [] => some []
  | .int i :: ds => (intsOf ds).map fun ns => i :: ns
  | _ :: _ => none
theorem intsOf_is {T : Tab} {ρ : List Addr} {H : Hp} : ∀ {ds : List D} {vs : List V} {ns : List Int}, Iss T ρ H ds vs → intsOf ds = some ns → vs = ns.map V.int
  | _, _, _, .nil, e => by cases e; rfl
  | _, _, _, .cons (d := d) (ds := ds) a b, e => by
    cases d with
    | int i =>
      simp only [intsOf] at e
      cases q : intsOf ds with
      | none => rw [q] at e; cases e
      | some ms =>
        rw [q] at e
        cases e
        cases a
        rw [List.map_cons, intsOf_is b q]
    | _ => simp only [intsOf] at e; cases e
/-! ### min, max, sum -/
def minF : CF := fun ds m => match ds with
  | [.int i, .int j] => .ok (.int (if j < i then j else i)) m
  | _ => .bad
def maxF : CF := fun ds m => match ds with
  | [.int i, .int j] => .ok (.int (if j > i then j else i)) m
  | _ => .bad
theorem cd_min : CallD (fun xs H Q => ∃ i j, xs = [.int i, .int j] ∧ Q (.int (if j < i then j else i)) H) minF := by
  intro T ρ m H ds vs Q E st r h
  unfold minF at h
  split at h
  · cases r with
    | cons r1 r2 => cases r2 with
      | cons r2 r3 => cases r3; cases r1; cases r2; exact ⟨_, _, rfl, h ρ H _ (.refl _ _) st (.int _)⟩
  · exact h.elim
theorem cd_max : CallD (fun xs H Q => ∃ i j, xs = [.int i, .int j] ∧ Q (.int (if j > i then j else i)) H) maxF := by
  intro T ρ m H ds vs Q E st r h
  unfold maxF at h
  split at h
  · cases r with
    | cons r1 r2 => cases r2 with
      | cons r2 r3 => cases r3; cases r1; cases r2; exact ⟨_, _, rfl, h ρ H _ (.refl _ _) st (.int _)⟩
  · exact h.elim
def sumF : CF := fun ds m => match ds with
  | [d] => match elems m d with
    | some xs => match intsOf xs with
      | some ns => .ok (.int ns.sum) m
      | none => .bad
    | none => .bad
  | _ => .bad
theorem cd_sum {K : PySem.W.Frag} : CallD (rSum K) sumF := by
  intro T ρ m H ds vs Q E st r h
  unfold sumF at h
  split at h
  · cases r with
    | cons r1 r2 =>
      cases r2
      split at h
      · rename_i xs e
        split at h
        · rename_i ns e2
          obtain ⟨a, ys, rfl, hr, rr⟩ := elems_is st r1 e
          have := intsOf_is rr e2
          subst this
          exact ⟨a, ns, rfl, .inl hr, h ρ H _ (.refl _ _) st (.int _)⟩
        · exact h.elim
      · exact h.elim
  · exact h.elim
section
variable {X : Cx} {T : Tab} {W : WX} {pos p : Pos}
theorem pd_min {a b : Expr} {f : EL} (hc : X.calm = true) (hg : Gl X "min") (hm : X.mg "min" = none) (ha : PA X [a, b] (TL T W f)) (he : starEach [a, b] X.env = (false, eval a X.env) :: starEach [b] X.env := by rfl) (hpl : (backTo pos (starEach [b] X.env)).any (·.1) = false := by rfl) : PE X (.Call (.Name "min" p) [a, b] [] pos) (TD T W (callE minF f)) :=
  pd_callB cd_min (call_min2 hc) hg hm Boot.«min» ha (by decide) (by decide) he hpl
theorem pd_max {a b : Expr} {f : EL} (hc : X.calm = true) (hg : Gl X "max") (hm : X.mg "max" = none) (ha : PA X [a, b] (TL T W f)) (he : starEach [a, b] X.env = (false, eval a X.env) :: starEach [b] X.env := by rfl) (hpl : (backTo pos (starEach [b] X.env)).any (·.1) = false := by rfl) : PE X (.Call (.Name "max" p) [a, b] [] pos) (TD T W (callE maxF f)) :=
  pd_callB cd_max (call_max2 hc) hg hm Boot.«max» ha (by decide) (by decide) he hpl
theorem pd_sum {e : Expr} {f : EL} (hc : X.calm = true) (hg : Gl X "sum") (hm : X.mg "sum" = none) (ha : PA X [e] (TL T W f)) (he : starEach [e] X.env = [(false, eval e X.env)] := by rfl) : PE X (.Call (.Name "sum" p) [e] [] pos) (TD T W (callE sumF f)) :=
  pd_callB cd_sum (cr_sum hc) hg hm Boot.«sum» ha (by decide) (by decide) he rfl
/-! ### tuple(xs) -/
def tuplF (d : D) (m : S) : R D := match d with
  | .tup ds => .ok (.tup ds) m
  | d => match elems m d with
    | some ds => .ok (.tup ds) m
    | none => .bad
def tuplE (f : E1) : E1 := fun μ m => (f μ m).bind tuplF
theorem pd_tuple {a : Expr} {f : E1} (hg : Gl X "tuple") (hm : X.mg "tuple" = none) (ha : PE X a (TD T W f)) (na : starEach [a] X.env = (false, eval a X.env) :: starEach [] X.env := by rfl) : PE X (.Call (.Name "tuple" p) [a] [] pos) (TD T W (tuplE f)) :=
  pe_imp (pe_tupleOf hg hm ha na) fun σ H Q ⟨ρ, m, μ, st, ev, h⟩ => by
    obtain ⟨ρ0, m0, μ0, s0, e0, h0⟩ := TD.bind (g := tuplF) st ev h
    refine ⟨ρ0, m0, μ0, s0, e0, h0.mono (fun v H1 ⟨ρ1, m1, d, l, s1, ev1, r, h1⟩ => ?_) fun _ _ _ z => z⟩
    unfold tuplF at h1
    split at h1
    · cases r with
      | tup e1 e2 e3 => exact .inr ⟨_, _, rfl, .inl (.inl e1), h1 ρ1 H1 _ (.refl _ _) s1 (.tup e1 e2 e3)⟩
    · split at h1
      · rename_i ds e
        obtain ⟨b, ys, rfl, hr, rr⟩ := elems_is s1 r e
        exact .inl ⟨b, ys, rfl, .inl hr, tup_new s1 rr h1⟩
      · exact h1.elim
end
/-! ### tuples of numbers, compared -/
def lt2F : OpF := fun x y m => match x, y with
  | .tup a, .tup b => match intsOf a, intsOf b with
    | some ns, some ms => .ok (.bl (HT.lexLt ns ms)) m
    | _, _ => .bad
  | x, y => ltF x y m
theorem od_lt2 {K : PySem.W.Frag} : OpD (fun x y H Q => rI0 (fun i j => .bl (decide (i < j))) x y H Q ∨ rLtT K x y H Q) lt2F := by
  intro T ρ m H x y v w Q E st rx ry h
  unfold lt2F at h
  split at h
  · split at h
    · rename_i ns ms e1 e2
      cases rx with
      | tup a1 a2 a3 => cases ry with
        | tup b1 b2 b3 =>
          have z1 := intsOf_is a3 e1
          have z2 := intsOf_is b3 e2
          subst z1; subst z2
          exact .inr ⟨_, _, ns, ms, rfl, rfl, .inl (.inl a1), .inl (.inl b1), h ρ H _ (.refl _ _) st (.bl _)⟩
    · exact h.elim
  · exact .inl (od_lt T ρ m H x y v w Q E st rx ry h)
section
variable {X : Cx} {T : Tab} {W : WX} {pos p : Pos}
theorem units_of {k : Nat} (rg : Rg k X.A) : X.A.units < cLine := by
  have h := rg.room.un
  have e : cLine = 9900 := rfl
  rw [e] at h ⊢
  omega
theorem pd_lt2 {a b : Expr} {f g : E1} {k : Nat} (rg : Rg k X.A) (ha : PE X a (TD T W f)) (hb : PE X b (TD T W g)) (hm : behindInMarks .Lt b = false := by rfl) : PE X (.Compare a [.Lt] [b] pos) (TD T W (bin lt2F f g)) := pd_cmp od_lt2 (OpR.or op_lt (op_ltT (units_of rg))) hm ha hb
theorem td_lt2 {a b : Expr} {f g : E1} {k : Nat} (rg : Rg k X.A) (ha : PE X a (TD T W f)) (hb : PE X b (TD T W g)) (hm : behindInMarks .Lt b = false := by rfl) : PT X (.Compare a [.Lt] [b] pos) (TB T W (isB (bin lt2F f g))) := td_cmp od_lt2 (OpR.or op_lt (op_ltT (units_of rg))) hm ha hb
/-! ### methods -/
def countF : D → CF := fun d ds m => match d, ds with
  | .str a, [.str b] => .ok (.int (Txt.count a b)) m
  | _, _ => .bad
theorem md_count : MtD X.K "str" (fun x xs H Q => ∃ a b, x = .str a ∧ xs = [.str b] ∧ Q (.int (Txt.count a b)) H) countF := by
  intro T ρ m H d ds v vs Q E st r rs h
  unfold countF at h
  split at h
  · cases r
    cases rs with
    | cons r1 r2 => cases r2; cases r1; exact ⟨_, _, rfl, rfl, h ρ H _ (.refl _ _) st (.int _)⟩
  · exact h.elim
def rfindF : D → CF := fun d ds m => match d, ds with
  | .str a, [.str b] => .ok (.int (Txt.rfind a b)) m
  | _, _ => .bad
theorem md_rfind : MtD X.K "str" (fun x xs H Q => ∃ a b, x = .str a ∧ xs = [.str b] ∧ Q (.int (Txt.rfind a b)) H) rfindF := by
  intro T ρ m H d ds v vs Q E st r rs h
  unfold rfindF at h
  split at h
  · cases r
    cases rs with
    | cons r1 r2 => cases r2; cases r1; exact ⟨_, _, rfl, rfl, h ρ H _ (.refl _ _) st (.int _)⟩
  · exact h.elim
end
end DL
end

section
set_option Elab.async false
set_option maxRecDepth 100000
set_option maxHeartbeats 4000000
set_option linter.all false
/-! D20: instances of own classes: fields, making, methods, properties, calls. -/
namespace DL
open PySem PySem.Spec PyProof.Rows L2

/-! ### fields -/
/-- an instance's class and fields -/
def insOf (m : S) : D → Option (Nat × List D)
  | .obj c fs => some (c, fs)
  | .ref n => match m[n]? with
    | some (.ins c fs) => some (c, fs)
    | _ => none
  | _ => none
def fldAt : List Str → List D → Str → Option D
  | f :: fs, d :: ds, x => if x = f then some d else fldAt fs ds x
  | _, _, _ => none
def setAt : List Str → List D → Str → D → Option (List D)
  | f :: fs, d :: ds, x, v => if x = f then some (v :: ds) else (setAt fs ds x v).map fun r => d :: r
  | f :: _, [], x, v => if x = f then some [v] else none
  | [], _, _, _ => none
section
variable {T : Tab} {ρ : List Addr} {m : S} {H : Hp}
theorem insOf_is (st : StOk T ρ m H) {d : D} {v : V} {c : Nat} {fs : List D} (r : Is T ρ H d v) (e : insOf m d = some (c, fs)) : ∃ a dx xs, v = .ref a ∧ H a = some (.ins (T.cls c) dx ((T.flds c).zip xs)) ∧ Iss T ρ H fs xs := by
  cases r with
  | obj h n r => cases e; exact ⟨_, _, _, rfl, h, r⟩
  | @ref n a hn =>
    simp only [insOf] at e
    cases q : m[n]? with
    | none => rw [q] at e; cases e
    | some ob =>
      rw [q] at e
      cases ob with
      | ins c' ds =>
        cases e
        obtain ⟨a', h1, dx, xs, h2, h3⟩ := st.at q
        rw [hn] at h1; cases h1
        exact ⟨a, dx, xs, rfl, h2, h3⟩
      | dic _ _ => cases e
      | lst _ => cases e
  | _ => cases e
theorem fldAt_is : ∀ {fs : List Str} {ds : List D} {xs : List V} {x : Str} {d : D}, Iss T ρ H ds xs → fldAt fs ds x = some d → ∃ v, (fs.zip xs).lookup x = some v ∧ Is T ρ H d v
  | [], _, _, _, _, _, e => by simp [fldAt] at e
  | f :: fs, _, _, x, d, .nil, e => by simp [fldAt] at e
  | f :: fs, _, _, x, d, .cons (v := v) a b, e => by
    unfold fldAt at e
    rw [List.zip_cons_cons, List.lookup_cons]
    by_cases h : x = f
    · rw [if_pos h] at e
      cases e
      have : (x == f) = true := by simpa using h
      rw [this]
      exact ⟨v, rfl, a⟩
    · rw [if_neg h] at e
      have : (x == f) = false := by simpa using h
      rw [this]
      exact fldAt_is b e
theorem setAt_is {y : V} {v : D} (ry : Is T ρ H v y) : ∀ {fs : List Str} {ds ds' : List D} {xs : List V} {x : Str}, Iss T ρ H ds xs → setAt fs ds x v = some ds' → ∃ xs', putF x y (fs.zip xs) = fs.zip xs' ∧ Iss T ρ H ds' xs'
  | [], _, _, _, _, _, e => by simp [setAt] at e
  | f :: fs, _, ds', _, x, .nil, e => by
    unfold setAt at e
    by_cases h : x = f
    · rw [if_pos h] at e
      cases e
      subst h
      exact ⟨[y], by simp [putF], .cons ry .nil⟩
    · rw [if_neg h] at e; cases e
  | f :: fs, _, ds', _, x, .cons (v := w) (vs := vs) a b, e => by
    unfold setAt at e
    rw [List.zip_cons_cons]
    unfold putF
    by_cases h : x = f
    · rw [if_pos h] at e
      cases e
      rw [if_pos h.symm]
      exact ⟨y :: vs, by simp, .cons ry b⟩
    · rw [if_neg h] at e
      obtain ⟨r, e1, e2⟩ := Option.map_eq_some_iff.mp e
      subst e2
      rw [if_neg (Ne.symm h)]
      obtain ⟨xs', h1, h2⟩ := setAt_is ry b e1
      exact ⟨w :: xs', by rw [h1]; simp, .cons a h2⟩
end
def fldF (T : Tab) (cs : List Nat) (x : Str) (d : D) (m : S) : R D := match insOf m d with
  | some (c, fs) => if c ∈ cs then (match fldAt (T.flds c) fs x with | some v => .ok v m | none => .bad) else .bad
  | none => .bad
def fldE (T : Tab) (cs : List Nat) (x : Str) (f : E1) : E1 := fun μ m => (f μ m).bind (fldF T cs x)
/-- o.x = v -/
def setFldF (T : Tab) (cs : List Nat) (x : Str) (v o : D) (m : S) : Option S := match o with
  | .ref n => match m[n]? with
    | some (.ins c fs) => if c ∈ cs ∧ (T.flds c).length < 1000 then (match setAt (T.flds c) fs x v with | some fs' => some (m.set n (.ins c fs')) | none => none) else none
    | _ => none
  | _ => none
def setFldS (T : Tab) (cs : List Nat) (x : Str) (fv fo : E1) : ST := liftS fv fun v => liftS fo fun o μ m => match setFldF T cs x v o m with
  | some m' => .nx μ m'
  | none => .bad
section
variable {X : Cx} {T : Tab} {W : WX} {pos : Pos}
/-- an attribute that no class has -/
def FldOk (K : PySem.W.Frag) (T : Tab) (cs : List Nat) (x : Str) : Prop := ∀ c ∈ cs, Cls K (T.cls c) ∧ NoAttr K (T.cls c) x
theorem pd_fld {e : Expr} {x : Str} {cs : List Nat} {f : E1} (ok : FldOk X.K T cs x) (he : PE X e (TD T W f)) (hb : attributeBase e x X.env (eval e X.env) = eval e X.env := by rfl) : PE X (.Attribute e x pos) (TD T W (fldE T cs x f)) :=
  pe_imp (pe_fld he hb) fun σ H Q ⟨ρ, m, μ, st, ev, h⟩ => by
    obtain ⟨ρ0, m0, μ0, s0, e0, h0⟩ := TD.bind (g := fldF T cs x) st ev h
    refine ⟨ρ0, m0, μ0, s0, e0, h0.mono (fun v H1 ⟨ρ1, m1, d, l, s, ev1, r, h1⟩ => ?_) fun _ _ _ z => z⟩
    unfold fldF at h1
    split at h1
    · rename_i c fs e1
      split at h1
      · rename_i hc
        split at h1
        · rename_i w e2
          obtain ⟨a, dx, xs, rfl, ha, rr⟩ := insOf_is s r e1
          obtain ⟨u, e3, ru⟩ := fldAt_is rr e2
          exact ⟨a, _, dx, _, u, rfl, ha, (ok c hc).1, (ok c hc).2, e3, h1 ρ1 H1 u (.refl _ _) s ru⟩
        · exact h1.elim
      · exact h1.elim
    · exact h1.elim
theorem sd_fld {o e : Expr} {x : Str} {cs : List Nat} {fv fo : E1} {p : Pos} (ok : FldOk X.K T cs x) (ho : PE X o (TD T W fo)) (he : PE X e (TD T W fv)) (hs : swapsWith e (some (.Attribute o x p)) pos.line X.env = pure false := by rfl) :
    PS X (.Assign [.Attribute o x p] e pos) (TDS T W (setFldS T cs x fv fo)) :=
  ps_imp (ps_fld ho he hs) fun Dn σ H ⟨ρ, m, μ, st, ev, h⟩ => by
    obtain ⟨ρ0, m0, μ0, s0, e0, h0⟩ := TD.lift st ev h
    refine ⟨ρ0, m0, μ0, s0, e0, h0.mono (fun y H1 ⟨ρ1, m1, dv, l1, st1, ev1, r1, h1⟩ => ?_) fun _ _ _ z => z⟩
    obtain ⟨ρ0, m0, μ0, s0, e0, h0⟩ := TD.lift st1 ev1 h1
    refine ⟨ρ0, m0, μ0, s0, e0, h0.mono (fun ov H2 ⟨ρ2, m2, dov, l2, st2, ev2, r2, h2⟩ => ?_) fun _ _ _ z => z⟩
    split at h2
    · rename_i m' e
      unfold setFldF at e
      split at e
      · rename_i n
        cases r2 with
        | @ref _ a hn =>
          split at e
          · rename_i c fs e1
            split at e
            · rename_i hc
              split at e
              · rename_i fs' e2
                cases e
                obtain ⟨a', h4, dx, xs, h5, h6⟩ := st2.at e1
                rw [hn] at h4; cases h4
                obtain ⟨xs', e3, r3⟩ := setAt_is (r1.le l2) h6 e2
                have hput := Le.put (o := .ins (T.cls c) dx (putF x y ((T.flds c).zip xs))) h5 (List.mem_of_getElem? hn)
                refine ⟨a, _, dx, _, rfl, h5, (ok c hc.1).1, (ok c hc.1).2, ?_, h2 ρ2 _ σ hput (st2.put hn ⟨dx, xs', by rw [e3]; exact upd_same, r3.le hput⟩) (ev2.le hput)⟩
                exact Nat.lt_of_le_of_lt (by rw [List.length_zip]; exact Nat.min_le_left _ _) hc.2
              · cases e
            · cases e
          · cases e
      · cases e
    · exact h2.elim
end

/-! ### making -/
/-- the instance at n, taken out of the store -/
def takeO (c n : Nat) (m : S) : R D := match m[n]? with
  | some (.ins c' fs) => if c' = c ∧ cls n fs = true ∧ (m.take n).all (clOb n) = true then .ok (.obj c fs) (m.take n) else .bad
  | _ => .bad
def takeX (k : Nat) (es : List D) (n : Nat) (m : S) : R D := if cls n es = true ∧ (m.take n).all (clOb n) = true then .err k es (m.take n) else .bad
/-- C(..): an instance that never changes afterwards -/
def makeF (c : Nat) (F : FD) : FD := fun ds m => match F (.ref m.length :: ds) (m ++ [.ins c []]) with
  | .ok .non m1 => takeO c m.length m1
  | .err k es m1 => takeX k es m.length m1
  | _ => .bad
/-- C(..): an instance of the store -/
def makeS (c : Nat) (F : FD) : FD := fun ds m => match F (.ref m.length :: ds) (m ++ [.ins c []]) with
  | .ok .non m1 => .ok (.ref m.length) m1
  | .err k es m1 => takeX k es m.length m1
  | _ => .bad
theorem ExcIs.shrink {T : Tab} {ρ t : List Addr} {H : Hp} {c : Nat} {fs : List D} {cl' : Value} {d : Option Addr} (h : ExcIs T (ρ ++ t) H c fs cl' d) (e : cls ρ.length fs = true) : ExcIs T ρ H c fs cl' d := by
  obtain ⟨h1, xs, h2, h3, h4⟩ := h
  exact ⟨h1, xs, h2.shrink e, h3, h4.elim .inl fun ⟨dx, e1, e2, e3⟩ => .inr ⟨dx, e1, nin_left e2, e3⟩⟩
section
variable {X : Cx} {T : Tab} {W : WX} {pos p : Pos}
theorem Rg.make {k : Nat} {A : Around} (r : Rg (k + 1) A) (C : Addr) (us : List Value) (kw : List (Str × Value)) : Rg k (A.under (.builtin "type.__call__" ⟨.ref C :: us, kw⟩)) := ⟨r.room.make C us kw, r.gd⟩
/-- what is left of the making's wish -/
theorem make_post {ρ1 : List Addr} {m1 : S} {H1 : Hp} {c n : Nat} {F : FD} {ds : List D} {vs : List V} {Q : VK} {E : XK} {x dx : Addr} {b : Bool} (st : StOk T ρ1 m1 H1) (r : Iss T ρ1 H1 ds vs) (hn : ds.length + 1 = n)
    (h : PoD T ρ1 H1 ((if b = true then makeF c F else makeS c F) ds m1) Q E) (nx : H1 x = none) (nd : H1 dx = none) (ne : dx ≠ x) :
    spD T n F (.ref x :: vs) (upd (upd H1 dx (.own x)) x (.ins (T.cls c) dx [])) (fun v H2 => v = .non ∧ Q (.ref x) H2) E := by
  have l1 : Le ρ1 H1 ρ1 (upd H1 dx (.own x)) := .new nd
  have nx' : upd H1 dx (.own x) x = none := by rw [upd_ne (Ne.symm ne)]; exact nx
  have l2 : Le ρ1 (upd H1 dx (.own x)) (ρ1 ++ [x]) (upd (upd H1 dx (.own x)) x (.ins (T.cls c) dx [])) := .place nx'
  have l := l1.trans l2
  have st2 : StOk T (ρ1 ++ [x]) (m1 ++ [.ins c []]) (upd (upd H1 dx (.own x)) x (.ins (T.cls c) dx [])) := (st.new nd).place nx' ⟨dx, [], by rw [upd_same, List.zip_nil_right], .nil⟩
  refine ⟨by rw [List.length_cons, ← r.len]; exact hn, ρ1 ++ [x], m1 ++ [.ins c []], .ref m1.length :: ds, st2, .cons (.ref (by rw [← st.len]; simp)) (r.le l), ?_⟩
  have key : ∀ F2 : R D, (PoD T ρ1 H1 (match F2 with | .ok .non m2 => (if b = true then takeO c m1.length m2 else .ok (.ref m1.length) m2) | .err k es m2 => takeX k es m1.length m2 | _ => .bad) Q E) →
      PoD T (ρ1 ++ [x]) (upd (upd H1 dx (.own x)) x (.ins (T.cls c) dx [])) F2 (fun v H2 => v = .non ∧ Q (.ref x) H2) E := fun F2 h => by
    cases F2 with
    | bad => exact h.elim
    | ok d m2 =>
      cases d with
      | non =>
        intro ρ3 H3 v l3 st3 iv
        refine ⟨iv.non_inv, ?_⟩
        obtain ⟨t, e3, _⟩ := l3.grow
        subst e3
        rw [List.append_assoc, List.singleton_append] at st3 l3
        have hx : (ρ1 ++ x :: t)[ρ1.length]? = some x := by simp
        have lt := l.trans l3
        simp only at h
        cases b with
        | true =>
          simp only [if_true] at h
          rw [← st.len] at h
          unfold takeO at h
          split at h
          · rename_i c' fs e
            split at h
            · rename_i hc
              obtain ⟨rfl, h1, h2⟩ := hc
              obtain ⟨dx', xs, hx2, rx⟩ := st3.obs ρ1.length x _ hx e
              refine h ρ1 H3 (.ref x) lt.shrink (st3.shrink h2) (.obj hx2 ?_ (rx.shrink h1))
              intro z
              exact (List.nodup_append.mp st3.nd).2.2 x z x (List.mem_cons_self ..) rfl
            · exact h.elim
          · exact h.elim
        | false =>
          simp only [Bool.false_eq_true, if_false] at h
          exact h (ρ1 ++ x :: t) H3 (.ref x) lt st3 (.ref (by rw [← st.len]; exact hx))
      | _ => exact h.elim
    | err k es m2 =>
      intro ρ3 H3 cl' d l3 st3 ex
      obtain ⟨t, e3, _⟩ := l3.grow
      subst e3
      rw [List.append_assoc, List.singleton_append] at st3 l3 ex
      have lt := l.trans l3
      simp only at h
      unfold takeX at h
      split at h
      · rename_i hc
        rw [← st.len] at hc h
        exact h ρ1 H3 cl' d lt.shrink (st3.shrink hc.2) (ex.shrink hc.1)
      · exact h.elim
  refine key _ ?_
  cases b with
  | true => exact h
  | false => exact h
theorem run_makeG {k : Nat} {f C : Addr} {fd : FuncData} {ps : List Str} {sp : Sp} {pins : List (Addr × Obj)} {σ : L2.St} {H : Hp} {s : Shared} {Q : VK} {us zs : List Value} {kw : List (Str × Value)} {vs : List V} (M : Mk X.K C f) (G : FnG X.prog X.w X.K X.mg X.base k f fd ps sp) (rg : Rg (k + 1) X.A) (tk : Takes X W)
    (hb : ∀ (s' : Shared) (o : Value), X.K.In s'.heap → BindsTo s' fd ⟨o :: us, kw⟩ (ps.zip (o :: zs))) (I : Inv X pins σ H s) (r : Vals vs zs)
    (h : ∀ x dx, H x = none → H dx = none → dx ≠ x → sp (.ref x :: vs) (upd (upd H dx (.own x)) x (.ins C dx [])) (fun v H2 => v = .non ∧ Q (.ref x) H2) (WE W σ)) :
    wpAny (model X.prog X.w) X.A (call (.ref C) us kw) (EP X pins σ Q) X.xe s := by
  have hq := h (s.heap.objs.size + 1) s.heap.objs.size (I.hok.fresh (Nat.le_succ _)) (I.hok.fresh (Nat.le_refl _)) (Nat.ne_of_lt (Nat.lt_succ_self _))
  have I2 := Inv.made (C := C) I
  have r2 : Vals (V.ref (s.heap.objs.size + 1) :: vs) (Value.ref (s.heap.objs.size + 1) :: zs) := .cons rfl r
  refine wpAny_call (make_map (f := f) I.kIn M.makes M.init (beq_iff_eq.mp M.fn) (codeAny_mono (G.run _ X.stack _ _ ⟨Value.ref (s.heap.objs.size + 1) :: us, kw⟩ (Value.ref (s.heap.objs.size + 1) :: zs) _ _ (WE W σ) (rg.make C us kw)
    (I2.env0.make C us kw) (hb _ _ I2.kIn) r2 hq) fun r s' hq' => ?_))
  cases r with
  | error e => exact passAt tk σ pins _ _ e s' I2 hq'
  | ok fl =>
    cases fl with
    | ret u =>
      obtain ⟨v, H', I3, rv, ev, q3⟩ := I2.after hq'
      subst ev
      exact ⟨rv, ⟨V.ref (s.heap.objs.size + 1), H', I3, rfl, q3⟩⟩
    | next => exact False.elim hq'
    | brk => exact False.elim hq'
    | cont => exact False.elim hq'
end
end DL
end

section
set_option Elab.async false
set_option maxRecDepth 100000
set_option maxHeartbeats 4000000
set_option linter.all false
/-! D21: calls of what a class has. -/
namespace DL
open PySem PySem.Spec PyProof.Rows L2

/-- a def at its address; kws: how many values come by position, the names of the others, and where each parameter is found -/
structure FnAt (P : Program) (w : World) (K : PySem.W.Frag) (mg : Str → Option Value) (base : Heap) (T : Tab) (k : Nat) (f : Addr) (ps : List Str) (kws : List (Nat × List Str × List Nat)) (F : FD) : Prop where
  ex : ∃ fd : FuncData, FnG P w K mg base k f fd ps (spD T ps.length F) ∧ Binds K fd ps [] ∧
    ∀ q ∈ kws, ∀ us ws : List Value, us.length = q.1 → ws.length = q.2.1.length → bindArgs fd ⟨us, q.2.1.zip ws⟩ = pure (ps.zip (pick q.2.2 (us ++ ws)))
theorem FnAt.mono {P : Program} {w : World} {K : PySem.W.Frag} {mg : Str → Option Value} {base : Heap} {T : Tab} {j k : Nat} {f : Addr} {ps : List Str} {kws : List (Nat × List Str × List Nat)} {F : FD} (h : FnAt P w K mg base T j f ps kws F) (l : j ≤ k) : FnAt P w K mg base T k f ps kws F :=
  let ⟨fd, G, r⟩ := h.ex; ⟨fd, G.mono l, r⟩
/-- a method of the classes that disp knows -/
structure MthOk (P : Program) (w : World) (K : PySem.W.Frag) (mg : Str → Option Value) (base : Heap) (T : Tab) (k : Nat) (m : Str) (ps : List Str) (kws : List (Nat × List Str × List Nat)) (disp : Nat → Option FD) : Prop where
  ok : ∀ c F, disp c = some F → ∃ f, Cls K (T.cls c) ∧ Meth K (T.cls c) m f ∧ FnAt P w K mg base T k f ps kws F ∧ m ∉ T.flds c
theorem lookup_zip_none {m : Str} : ∀ {fs : List Str} {xs : List V}, m ∉ fs → (fs.zip xs).lookup m = none
  | [], _, _ => by simp
  | f :: fs, [], _ => by simp
  | f :: fs, x :: xs, h => by
    rw [List.zip_cons_cons, List.lookup_cons]
    have : (m == f) = false := by
      rw [beq_eq_false_iff_ne]
      exact fun z => h (by rw [z]; exact List.mem_cons_self ..)
    rw [this]
    exact lookup_zip_none fun z => h (List.mem_cons_of_mem _ z)
def mthE (disp : Nat → Option FD) (fo : E1) (fL : EL) : E1 := fun μ m => (fo μ m).bind fun d m1 => match insOf m1 d with
  | some (c, _) => (match disp c with
    | some F => (fL μ m1).bind fun ds m2 => F (d :: ds) m2
    | none => .bad)
  | none => .bad
def mthK (disp : Nat → Option FD) (idx : List Nat) (fo : E1) (fP fL : EL) : E1 := fun μ m => (fo μ m).bind fun d m1 => match insOf m1 d with
  | some (c, _) => (match disp c with
    | some F => (fP μ m1).bind fun ps m2 => (fL μ m2).bind fun ds m3 => F (pick idx (d :: ps ++ ds)) m3
    | none => .bad)
  | none => .bad
section
variable {X : Cx} {T : Tab} {W : WX} {pos apos p : Pos} {k j n : Nat} {m : Str} {ps ks : List Str} {kws : List (Nat × List Str × List Nat)} {disp : Nat → Option FD} {o e : Expr} {es : List Expr} {fo : E1} {fL fP : EL} {idx : List Nat} {kw : List Keyword}
/-- o.m(e, ..) -/
theorem pd_mth (M : MthOk X.prog X.w X.K X.mg X.base T k m ps kws disp) (rg : Rg j X.A) (hk : k ≤ j) (tk : Takes X W) (he : PE X o (TD T W fo)) (ha : PA X (e :: es) (TL T W fL)) [l : LenL fL n] (hn : n + 1 = ps.length := by rfl) {pl : Sem Bool}
    (hst : starEach (e :: es) X.env = (false, eval e X.env) :: starEach es X.env := by rfl) (hpl : (backTo pos (starEach es X.env)).any (·.1) = false := by rfl)
    (ht : eval (.Call (.Attribute o m apos) (e :: es) [] pos) X.env = (do
      let ov ← eval o X.env
      standAt apos.atName
      let (f, first) ← holding [ov] (getMethod ov m pl)
      callWith pos f first (backTo pos (starEach (e :: es) X.env)) (backToKw pos (keywordEach [] X.env))) := by rfl) :
    PE X (.Call (.Attribute o m apos) (e :: es) [] pos) (TD T W (mthE disp fo fL)) := ⟨fun pins s σ H Q I ⟨ρ, m0, μ, st, ev, h⟩ => by
  obtain ⟨ρ0, m2, μ0, s0, e0, h0⟩ := TD.bind (g := fun d m1 => match insOf m1 d with
    | some (c, _) => (match disp c with | some F => (fL μ m1).bind fun ds m2 => F (d :: ds) m2 | none => .bad)
    | none => .bad) st ev h
  refine PySem.W.methodCall_KW (pl := pl) (thn (he.run pins s σ H _ I ⟨ρ0, m2, μ0, s0, e0, h0⟩) fun u s1 ⟨x, H1, I1, rx, ρ1, m1, d, l1, st1, ev1, r, h1⟩ => ?_) ht
  split at h1
  · rename_i c fs e1
    split at h1
    · rename_i F e2
      obtain ⟨f, hc, hm, G, nf⟩ := M.ok c F e2
      obtain ⟨fd, G, hb, _⟩ := G.ex
      obtain ⟨a, dx, xs, rfl, ea, rr⟩ := insOf_is st1 r e1
      obtain rfl : u = Value.ref a := rx
      refine getmeth_ok I1 ea hc hm (lookup_zip_none nf) ?_
      obtain ⟨ρ3, m3, μ3, s3, e3, h3⟩ := TL.bind (g := fun ds m2 => F (d :: ds) m2) st1 ev1 h1
      refine PySem.W.callWith_K (first := [.ref a]) (h₀ := X.base) I.ok.mod.kin hm.kp (thn (ha.run pos pins s1 σ H1 (fun vs H1 => spD T ps.length F (.ref a :: vs) H1 Q (WE W σ)) I1 ?_) fun us s2 ⟨vs, H2, I2, rv, q2⟩ => ⟨I2.kIn, ?_⟩) hst hpl
      · refine ⟨ρ1, m1, μ, st1, ev1, ?_⟩
        cases e4 : fL μ m1 with
        | ok ds m4 =>
          rw [e4] at h1
          intro ρ5 H5 vs l5 s5 r5
          refine ⟨by rw [List.length_cons, ← r5.len, l.len _ _ _ _ e4]; exact hn, ρ5, m4, d :: ds, s5, .cons (r.le l5) r5, Po.le h1 l5⟩
        | err c fs m1 => rw [e4] at h1; exact h1
        | bad => rw [e4] at h1; exact h1
      · have r2 : Vals (V.ref a :: vs) (Value.ref a :: us) := .cons rfl rv
        exact run_g (ks := []) (ws := []) (us := .ref a :: us) G (rg.mono hk) tk (by have := hb s2 (.ref a :: us) I2.kIn (by rw [List.append_nil, ← r2.length]; exact q2.1); rw [List.append_nil] at this; exact this) I2 r2 q2
    · exact h1.elim
  · exact h1.elim⟩
/-- o.m() -/
theorem pd_mth0 (M : MthOk X.prog X.w X.K X.mg X.base T k m ps kws disp) (rg : Rg j X.A) (hk : k ≤ j) (tk : Takes X W) (he : PE X o (TD T W fo)) (hn : 1 = ps.length := by rfl) {pl : Sem Bool}
    (ht : eval (.Call (.Attribute o m apos) [] [] pos) X.env = (do
      let ov ← eval o X.env
      standAt apos.atName
      let (f, first) ← holding [ov] (getMethod ov m pl)
      callWith pos f first (backTo pos (starEach [] X.env)) (backToKw pos (keywordEach [] X.env))) := by rfl) :
    PE X (.Call (.Attribute o m apos) [] [] pos) (TD T W (mthE disp fo nilL)) := ⟨fun pins s σ H Q I ⟨ρ, m0, μ, st, ev, h⟩ => by
  obtain ⟨ρ0, m2, μ0, s0, e0, h0⟩ := TD.bind (g := fun d m1 => match insOf m1 d with
    | some (c, _) => (match disp c with | some F => (nilL μ m1).bind fun ds m2 => F (d :: ds) m2 | none => .bad)
    | none => .bad) st ev h
  refine PySem.W.methodCall_KW (pl := pl) (thn (he.run pins s σ H _ I ⟨ρ0, m2, μ0, s0, e0, h0⟩) fun u s1 ⟨x, H1, I1, rx, ρ1, m1, d, l1, st1, ev1, r, h1⟩ => ?_) ht
  split at h1
  · rename_i c fs e1
    split at h1
    · rename_i F e2
      obtain ⟨f, hc, hm, G, nf⟩ := M.ok c F e2
      obtain ⟨fd, G, hb, _⟩ := G.ex
      obtain ⟨a, dx, xs, rfl, ea, rr⟩ := insOf_is st1 r e1
      obtain rfl : u = Value.ref a := rx
      refine getmeth_ok I1 ea hc hm (lookup_zip_none nf) ?_
      refine PySem.W.callWith_K0 (first := [.ref a]) I1.kIn hm.kp ?_
      have r2 : Vals [V.ref a] [Value.ref a] := .cons rfl .nil
      refine run_g (ks := []) (ws := []) (us := [.ref a]) G (rg.mono hk) tk (by have := hb s1 [.ref a] I1.kIn (by rw [List.append_nil]; exact hn); rw [List.append_nil] at this; exact this) I1 r2 ⟨hn, ρ1, m1, [d], st1, .cons r .nil, h1⟩
    · exact h1.elim
  · exact h1.elim⟩
/-- o.m(k = v, ..) -/
theorem pd_mthK (M : MthOk X.prog X.w X.K X.mg X.base T k m ps kws disp) (rg : Rg j X.A) (hk : k ≤ j) (tk : Takes X W) (hq : (1, ks, idx) ∈ kws) (he : PE X o (TD T W fo)) (ha : PK X kw (TL T W fL)) [l : LenL fL ks.length]
    (hi : idx.all (fun i => decide (i < ks.length + 1)) = true := by rfl) (hl : idx.length = ps.length := by rfl) {pl : Sem Bool}
    (hall : (backToKw pos (keywordEach kw X.env)).all (·.1.isSome) = true := by rfl) (hks : (backToKw pos (keywordEach kw X.env)).filterMap (·.1) = ks := by rfl)
    (hpl : ((backTo pos (starEach [] X.env)).any (·.1) || (backToKw pos (keywordEach kw X.env)).any (·.1.isNone)) = false := by rfl)
    (ht : eval (.Call (.Attribute o m apos) [] kw pos) X.env = (do
      let ov ← eval o X.env
      standAt apos.atName
      let (f, first) ← holding [ov] (getMethod ov m pl)
      callWith pos f first (backTo pos (starEach [] X.env)) (backToKw pos (keywordEach kw X.env))) := by rfl) :
    PE X (.Call (.Attribute o m apos) [] kw pos) (TD T W (mthK disp idx fo nilL fL)) := ⟨fun pins s σ H Q I ⟨ρ, m0, μ, st, ev, h⟩ => by
  obtain ⟨ρ0, m2, μ0, s0, e0, h0⟩ := TD.bind (g := fun d m1 => match insOf m1 d with
    | some (c, _) => (match disp c with | some F => (nilL μ m1).bind fun ps m2 => (fL μ m2).bind fun ds m3 => F (pick idx (d :: ps ++ ds)) m3 | none => .bad)
    | none => .bad) st ev h
  refine PySem.W.methodCall_KW (pl := pl) (thn (he.run pins s σ H _ I ⟨ρ0, m2, μ0, s0, e0, h0⟩) fun u s1 ⟨x, H1, I1, rx, ρ1, m1, d, l1, st1, ev1, r, h1⟩ => ?_) ht
  split at h1
  · rename_i c fs e1
    split at h1
    · rename_i F e2
      obtain ⟨f, hc, hm, G, nf⟩ := M.ok c F e2
      obtain ⟨fd, G, _, hb⟩ := G.ex
      obtain ⟨a, dx, xs, rfl, ea, rr⟩ := insOf_is st1 r e1
      obtain rfl : u = Value.ref a := rx
      refine getmeth_ok I1 ea hc hm (lookup_zip_none nf) ?_
      have h1 : PoD T ρ1 H1 ((fL μ m1).bind fun ds m3 => F (pick idx (d :: ds)) m3) Q fun c d H' => W c d σ H' := h1
      refine PySem.W.callWith_KW0 (first := [.ref a]) (h₀ := X.base) I.ok.mod.kin hm.kp hall (thn (ha.run pos pins s1 σ H1 (fun vs H1 => vs.length = ks.length ∧ spD T ps.length F (pick idx (.ref a :: vs)) H1 Q (WE W σ)) I1 ?_) fun us s2 ⟨vs, H2, I2, rv, hv, q2⟩ => ⟨I2.kIn, ?_⟩) hpl
      · refine ⟨ρ1, m1, μ, st1, ev1, ?_⟩
        cases e4 : fL μ m1 with
        | ok ds m4 =>
          rw [e4] at h1
          intro ρ5 H5 vs l5 s5 r5
          have hv : vs.length = ks.length := by rw [← r5.len]; exact l.len _ _ _ _ e4
          refine ⟨hv, (pick_len hi (by rw [List.length_cons, hv])).trans hl, ρ5, m4, pick idx (d :: ds), s5, Iss.pick (.cons (r.le l5) r5) idx, Po.le h1 l5⟩
        | err c fs m1 => rw [e4] at h1; exact h1
        | bad => rw [e4] at h1; exact h1
      · rw [hks]
        have r2 : Vals (V.ref a :: vs) (Value.ref a :: us) := .cons rfl rv
        have hu : us.length = ks.length := by rw [← rv.length]; exact hv
        exact run_g (ks := ks) (us := [.ref a]) G (rg.mono hk) tk (BindsTo.of_eq (hb _ hq [.ref a] us rfl hu)) I2 (vals_pick r2 idx) q2
    · exact h1.elim
  · exact h1.elim⟩
/-- o.m(e, .., k = v, ..) -/
theorem pd_mthPK {np : Nat} (M : MthOk X.prog X.w X.K X.mg X.base T k m ps kws disp) (rg : Rg j X.A) (hk : k ≤ j) (tk : Takes X W) (hq : (np + 1, ks, idx) ∈ kws) (he : PE X o (TD T W fo)) (hp : PA X (e :: es) (TL T W fP)) [lp : LenL fP np] (ha : PK X kw (TL T W fL)) [l : LenL fL ks.length]
    (hi : idx.all (fun i => decide (i < np + 1 + ks.length)) = true := by rfl) (hl : idx.length = ps.length := by rfl) {pl : Sem Bool}
    (hall : (backToKw pos (keywordEach kw X.env)).all (·.1.isSome) = true := by rfl) (hks : (backToKw pos (keywordEach kw X.env)).filterMap (·.1) = ks := by rfl)
    (hst : starEach (e :: es) X.env = (false, eval e X.env) :: starEach es X.env := by rfl)
    (hpl : ((backTo pos (starEach (e :: es) X.env)).any (·.1) || (backToKw pos (keywordEach kw X.env)).any (·.1.isNone)) = false := by rfl)
    (ht : eval (.Call (.Attribute o m apos) (e :: es) kw pos) X.env = (do
      let ov ← eval o X.env
      standAt apos.atName
      let (f, first) ← holding [ov] (getMethod ov m pl)
      callWith pos f first (backTo pos (starEach (e :: es) X.env)) (backToKw pos (keywordEach kw X.env))) := by rfl) :
    PE X (.Call (.Attribute o m apos) (e :: es) kw pos) (TD T W (mthK disp idx fo fP fL)) := ⟨fun pins s σ H Q I ⟨ρ, m0, μ, st, ev, h⟩ => by
  obtain ⟨ρ0, m2, μ0, s0, e0, h0⟩ := TD.bind (g := fun d m1 => match insOf m1 d with
    | some (c, _) => (match disp c with | some F => (fP μ m1).bind fun ps m2 => (fL μ m2).bind fun ds m3 => F (pick idx (d :: ps ++ ds)) m3 | none => .bad)
    | none => .bad) st ev h
  refine PySem.W.methodCall_KW (pl := pl) (thn (he.run pins s σ H _ I ⟨ρ0, m2, μ0, s0, e0, h0⟩) fun u s1 ⟨x, H1, I1, rx, ρ1, m1, d, l1, st1, ev1, r, h1⟩ => ?_) ht
  split at h1
  · rename_i c fs e1
    split at h1
    · rename_i F e2
      obtain ⟨f, hc, hm, G, nf⟩ := M.ok c F e2
      obtain ⟨fd, G, _, hb⟩ := G.ex
      obtain ⟨a, dx, xs, rfl, ea, rr⟩ := insOf_is st1 r e1
      obtain rfl : u = Value.ref a := rx
      refine getmeth_ok I1 ea hc hm (lookup_zip_none nf) ?_
      refine PySem.W.callWith_KW (first := [.ref a]) (h₀ := X.base) I.ok.mod.kin hm.kp hall (thn (hp.run pos pins s1 σ H1 (fun zs H2 => zs.length = np ∧ ∃ ρ2 m2 ds, StOk T ρ2 m2 H2 ∧ EnvOk T ρ2 H2 μ σ ∧ Iss T ρ2 H2 (d :: ds) (.ref a :: zs) ∧ PoD T ρ2 H2 ((fL μ m2).bind fun es m3 => F (pick idx (d :: ds ++ es)) m3) Q fun c d H' => W c d σ H') I1 ?_) fun us s2 ⟨zs, H2, I2, rz, hz, ρ2, m2, ds, st2, ev2, rd, q2⟩ => ?_) hpl hst
      · refine ⟨ρ1, m1, μ, st1, ev1, ?_⟩
        cases e4 : fP μ m1 with
        | ok ds m4 =>
          rw [e4] at h1
          intro ρ5 H5 vs l5 s5 r5
          exact ⟨by rw [← r5.len]; exact lp.len _ _ _ _ e4, ρ5, m4, ds, s5, ev1.le l5, .cons (r.le l5) r5, Po.le h1 l5⟩
        | err c fs m1 => rw [e4] at h1; exact h1
        | bad => rw [e4] at h1; exact h1
      · refine thn (ha.run pos pins s2 σ H2 (fun vs H3 => vs.length = ks.length ∧ spD T ps.length F (pick idx (.ref a :: zs ++ vs)) H3 Q (WE W σ)) I2 ?_) fun ws s3 ⟨vs, H3, I3, rv, hv, q3⟩ => ?_
        · refine ⟨ρ2, m2, μ, st2, ev2, ?_⟩
          cases e4 : fL μ m2 with
          | ok es m4 =>
            rw [e4] at q2
            intro ρ5 H5 vs l5 s5 r5
            have hv : vs.length = ks.length := by rw [← r5.len]; exact l.len _ _ _ _ e4
            refine ⟨hv, (pick_len hi (by simp [hv, hz]; omega)).trans hl, ρ5, m4, pick idx (d :: ds ++ es), s5, Iss.pick ((rd.le l5).app r5) idx, Po.le q2 l5⟩
          | err c fs m1 => rw [e4] at q2; exact q2
          | bad => rw [e4] at q2; exact q2
        · rw [hks]
          have r2 : Vals (V.ref a :: zs ++ vs) (Value.ref a :: us ++ ws) := Vals.append (.cons rfl rz) rv
          have hu : us.length = np := by rw [← rz.length]; exact hz
          have hw : ws.length = ks.length := by rw [← rv.length]; exact hv
          exact ⟨I3.kIn, run_g (ks := ks) (us := .ref a :: us) G (rg.mono hk) tk (BindsTo.of_eq (hb _ hq (.ref a :: us) ws (by rw [List.length_cons, hu]) hw)) I3 (vals_pick r2 idx) q3⟩
    · exact h1.elim
  · exact h1.elim⟩
end
end DL
end

section
set_option Elab.async false
set_option maxRecDepth 100000
set_option maxHeartbeats 4000000
set_option linter.all false
/-! D22: instances made, properties, instances called, classmethods. -/
namespace DL
open PySem PySem.Spec PyProof.Rows L2

theorem pick_tail {α : Type} : ∀ {idx : List Nat}, idx.all (fun i => decide (0 < i)) = true → ∀ (y z : α) (zs : List α), pick idx (y :: zs) = pick idx (z :: zs)
  | [], _, _, _, _ => rfl
  | 0 :: idx, h, _, _, _ => by simp at h
  | (i + 1) :: idx, h, y, z, zs => by
    rw [List.all_cons, Bool.and_eq_true] at h
    have ih := pick_tail h.2 y z zs
    unfold pick at ih ⊢
    rw [List.filterMap_cons, List.filterMap_cons, ih]
    rfl
/-- a class that is made: its __init__ (ps begins with self) -/
structure Ctor (P : Program) (w : World) (K : PySem.W.Frag) (mg : Str → Option Value) (base : Heap) (T : Tab) (k : Nat) (c : Nat) (x : Str) (ps : List Str) (kws : List (Nat × List Str × List Nat)) (F : FD) : Prop where
  ex : ∃ f, Mk K (T.cls c) f ∧ FnAt P w K mg base T k f ps kws F ∧ mg x = some (.ref (T.cls c))
def makeB (b : Bool) (c : Nat) (F : FD) : FD := fun ds m => (if b = true then makeF c F else makeS c F) ds m
def makeE (b : Bool) (c : Nat) (F : FD) (fL : EL) : E1 := fun μ m => (fL μ m).bind fun ds m1 => makeB b c F ds m1
def makeK (b : Bool) (c : Nat) (F : FD) (idx : List Nat) (fP fL : EL) : E1 := fun μ m => (fP μ m).bind fun ps m1 => (fL μ m1).bind fun ds m2 => makeB b c (fun ds m => F (pick idx ds) m) (ps ++ ds) m2
section
variable {X : Cx} {T : Tab} {W : WX} {pos apos p : Pos} {k j n np c : Nat} {x m : Str} {ps ks : List Str} {kws : List (Nat × List Str × List Nat)} {o e : Expr} {es : List Expr} {fo : E1} {fL fP : EL} {idx : List Nat} {kw : List Keyword} {F : FD} {b : Bool}
theorem run_new {pins : List (Addr × Obj)} {σ : L2.St} {H : Hp} {s : Shared} {Q : VK} {us : List Value} {vs : List V} {ds : List D} {ρ : List Addr} {m0 : S} (N : Ctor X.prog X.w X.K X.mg X.base T k c x ps kws F) (rg : Rg j X.A) (hk : k + 1 ≤ j) (tk : Takes X W) (I : Inv X pins σ H s) (r : Vals vs us) (st : StOk T ρ m0 H) (ri : Iss T ρ H ds vs) (hn : ds.length + 1 = ps.length)
    (h : PoD T ρ H (makeB b c F ds m0) Q fun c d H' => W c d σ H') : wpAny (model X.prog X.w) X.A (call (.ref (T.cls c)) us) (EP X pins σ Q) X.xe s := by
  obtain ⟨f, M, G, _⟩ := N.ex
  obtain ⟨fd, G, hb, _⟩ := G.ex
  refine run_makeG (zs := us) M G (rg.mono hk) tk (fun s' o hK => by
    have := hb s' (o :: us) hK (by rw [List.append_nil, List.length_cons, ← r.length, ← ri.len]; exact hn)
    rw [List.append_nil] at this; exact this) I r fun xx dx nx nd ne => ?_
  exact make_post st ri hn h nx nd ne
/-- C(e, ..) -/
theorem pd_new (N : Ctor X.prog X.w X.K X.mg X.base T k c x ps kws F) (rg : Rg j X.A) (hk : k + 1 ≤ j) (tk : Takes X W) (hg : Gl X x) (kp : PySem.W.keepIn X.K (.ref (T.cls c)) = true) (ha : PA X (e :: es) (TL T W fL)) [l : LenL fL n] (hn : n + 1 = ps.length := by rfl)
    (hdb : (x == ("__debug__" : Str)) = false := by decide) (he : starEach (e :: es) X.env = (false, eval e X.env) :: starEach es X.env := by rfl) (hpl : (backTo pos (starEach es X.env)).any (·.1) = false := by rfl) :
    PE X (.Call (.Name x p) (e :: es) [] pos) (TD T W (makeE b c F fL)) := ⟨fun pins s σ H Q I ⟨ρ, m0, μ, st, ev, h⟩ => by
  obtain ⟨f, M, G, hm⟩ := N.ex
  refine wpAny_Call_Name_kw (ld_glob I hg hm ?_ hdb)
  refine PySem.W.callWith_K (h₀ := X.base) I.ok.mod.kin kp (thn (ha.run pos pins s σ H (fun vs H1 => ∃ ρ1 m1 ds, StOk T ρ1 m1 H1 ∧ Iss T ρ1 H1 ds vs ∧ ds.length = n ∧ PoD T ρ1 H1 (makeB b c F ds m1) Q fun c d H' => W c d σ H') I ?_) fun us s1 ⟨vs, H1, I1, r, ρ1, m1, ds, st1, ri, hl, q⟩ => ⟨I1.kIn, ?_⟩) he hpl
  · refine ⟨ρ, m0, μ, st, ev, ?_⟩
    unfold makeE at h
    cases e4 : fL μ m0 with
    | ok ds m4 =>
      rw [e4] at h
      intro ρ5 H5 vs l5 s5 r5
      exact ⟨ρ5, m4, ds, s5, r5, l.len _ _ _ _ e4, Po.le h l5⟩
    | err c fs m1 => rw [e4] at h; exact h
    | bad => rw [e4] at h; exact h
  · exact run_new N rg hk tk I1 r st1 ri (by rw [hl]; exact hn) q⟩
/-- C() -/
theorem pd_new0 (N : Ctor X.prog X.w X.K X.mg X.base T k c x ps kws F) (rg : Rg j X.A) (hk : k + 1 ≤ j) (tk : Takes X W) (hg : Gl X x) (kp : PySem.W.keepIn X.K (.ref (T.cls c)) = true) (hn : 1 = ps.length := by rfl)
    (hdb : (x == ("__debug__" : Str)) = false := by decide) : PE X (.Call (.Name x p) [] [] pos) (TD T W (makeE b c F nilL)) := ⟨fun pins s σ H Q I ⟨ρ, m0, μ, st, ev, h⟩ => by
  obtain ⟨f, M, G, hm⟩ := N.ex
  refine wpAny_Call_Name_kw (ld_glob I hg hm ?_ hdb)
  refine PySem.W.callWith_K0 I.kIn kp ?_
  exact run_new (us := []) N rg hk tk I .nil st .nil hn h⟩
/-- C(k = v, ..) -/
theorem pd_newK (N : Ctor X.prog X.w X.K X.mg X.base T k c x ps kws F) (rg : Rg j X.A) (hk : k + 1 ≤ j) (tk : Takes X W) (hg : Gl X x) (kp : PySem.W.keepIn X.K (.ref (T.cls c)) = true) (hq : (1, ks, 0 :: idx) ∈ kws) (ha : PK X kw (TL T W fL)) [l : LenL fL ks.length]
    (hi : (0 :: idx).all (fun i => decide (i < ks.length + 1)) = true := by rfl) (hl : idx.length + 1 = ps.length := by rfl) (hz : idx.all (fun i => decide (0 < i)) = true := by rfl)
    (hall : (backToKw pos (keywordEach kw X.env)).all (·.1.isSome) = true := by rfl) (hks : (backToKw pos (keywordEach kw X.env)).filterMap (·.1) = ks := by rfl)
    (hdb : (x == ("__debug__" : Str)) = false := by decide) (hpl : ((backTo pos (starEach [] X.env)).any (·.1) || (backToKw pos (keywordEach kw X.env)).any (·.1.isNone)) = false := by rfl) :
    PE X (.Call (.Name x p) [] kw pos) (TD T W (makeK b c F (0 :: idx) nilL fL)) := ⟨fun pins s σ H Q I ⟨ρ, m0, μ, st, ev, h⟩ => by
  obtain ⟨f, M, G, hm⟩ := N.ex
  obtain ⟨fd, G, _, hb⟩ := G.ex
  refine wpAny_Call_Name_kw (ld_glob I hg hm ?_ hdb)
  have h : PoD T ρ H ((fL μ m0).bind fun ds m2 => makeB b c (fun ds m => F (pick (0 :: idx) ds) m) ds m2) Q fun c d H' => W c d σ H' := h
  refine PySem.W.callWith_KW0 (h₀ := X.base) I.ok.mod.kin kp hall (thn (ha.run pos pins s σ H (fun vs H1 => ∃ ρ1 m1 ds, StOk T ρ1 m1 H1 ∧ Iss T ρ1 H1 ds vs ∧ ds.length = ks.length ∧ PoD T ρ1 H1 (makeB b c (fun ds m => F (pick (0 :: idx) ds) m) ds m1) Q fun c d H' => W c d σ H') I ?_) fun us s1 ⟨vs, H1, I1, r, ρ1, m1, ds, st1, ri, hlen, q⟩ => ⟨I1.kIn, ?_⟩) hpl
  · refine ⟨ρ, m0, μ, st, ev, ?_⟩
    cases e4 : fL μ m0 with
    | ok ds m4 =>
      rw [e4] at h
      intro ρ5 H5 vs l5 s5 r5
      exact ⟨ρ5, m4, ds, s5, r5, l.len _ _ _ _ e4, Po.le h l5⟩
    | err c fs m1 => rw [e4] at h; exact h
    | bad => rw [e4] at h; exact h
  · rw [hks]
    have hu : us.length = ks.length := by rw [← r.length, ← ri.len]; exact hlen
    have tail : ∀ {α : Type} (y z : α) (zs : List α), pick idx (y :: zs) = pick idx (z :: zs) := fun {α} y z zs => pick_tail hz y z zs
    have cons : ∀ {α : Type} (y : α) (zs : List α), pick (0 :: idx) (y :: zs) = y :: pick idx (y :: zs) := fun {α} y zs => by
      unfold pick
      rfl
    refine run_makeG (zs := pick idx (.none :: us)) (vs := pick idx (V.non :: vs)) M G (rg.mono hk) tk (fun s' oo hK => ?_) I1 (vals_pick (.cons (show L2.RelV V.non Value.none from rfl) r) idx) fun xx dx nx nd ne => ?_
    · have := hb _ hq [oo] us rfl hu
      rw [List.singleton_append, cons, tail oo .none us] at this
      exact BindsTo.of_eq this
    · obtain ⟨hl2, ρ2, m2, ds2, st2, rr, po⟩ := make_post (n := ks.length + 1) st1 ri (by rw [hlen]) q nx nd ne
      have e1 : V.ref xx :: pick idx (V.non :: vs) = pick (0 :: idx) (.ref xx :: vs) := by rw [cons, tail V.non (.ref xx) vs]
      rw [e1]
      refine ⟨(pick_len hi hl2).trans (by rw [List.length_cons]; exact hl), ρ2, m2, pick (0 :: idx) ds2, st2, rr.pick _, po⟩⟩
end

/-! ### properties -/
def noErr : R D → R D
  | .ok d m => .ok d m
  | _ => .bad
structure PropOk (P : Program) (w : World) (K : PySem.W.Frag) (mg : Str → Option Value) (base : Heap) (T : Tab) (k : Nat) (x : Str) (disp : Nat → Option FD) : Prop where
  ok : ∀ c F, disp c = some F → ∃ p g, Cls K (T.cls c) ∧ PropOf K (T.cls c) x p g ∧ FnAt P w K mg base T k g ["self"] [] F
def propE (disp : Nat → Option FD) (fo : E1) : E1 := fun μ m => (fo μ m).bind fun d m1 => match insOf m1 d with
  | some (c, _) => (match disp c with
    | some F => noErr (F [d] m1)
    | none => .bad)
  | none => .bad
section
variable {X : Cx} {T : Tab} {W : WX} {pos apos p : Pos} {k j n np c : Nat} {x m : Str} {ps ks : List Str} {kws : List (Nat × List Str × List Nat)} {o e : Expr} {es : List Expr} {fo : E1} {fL fP : EL} {disp : Nat → Option FD}
theorem Rg.in1 {A : Around} (r : Rg (k + 1) A) : Rg k A.in1 := ⟨r.room.in1, r.gd⟩
theorem pd_prop (M : PropOk X.prog X.w X.K X.mg X.base T k x disp) (rg : Rg j X.A) (hk : k + 1 ≤ j) (he : PE X o (TD T W fo)) (hab : attributeBase o x X.env (eval o X.env) = eval o X.env := by rfl) : PE X (.Attribute o x pos) (TD T W (propE disp fo)) := ⟨fun pins s σ H Q I ⟨ρ, m0, μ, st, ev, h⟩ => by
  obtain ⟨ρ0, m2, μ0, s0, e0, h0⟩ := TD.bind (g := fun d m1 => match insOf m1 d with
    | some (c, _) => (match disp c with | some F => noErr (F [d] m1) | none => .bad)
    | none => .bad) st ev h
  refine attr_of hab (thn (he.run pins s σ H _ I ⟨ρ0, m2, μ0, s0, e0, h0⟩) fun u s1 ⟨xx, H1, I1, rx, ρ1, m1, d, l1, st1, ev1, r, h1⟩ => ?_)
  split at h1
  · rename_i c fs e1
    split at h1
    · rename_i F e2
      obtain ⟨pp, g, hc, hp, G⟩ := M.ok c F e2
      obtain ⟨fd, G, hb, _⟩ := G.ex
      obtain ⟨a, dx, xs, rfl, ea, rr⟩ := insOf_is st1 r e1
      obtain rfl : u = Value.ref a := rx
      obtain ⟨mA, O, _, _, _, _⟩ := ins_get I1.hok ea
      obtain ⟨od, J, _⟩ := O.look
      obtain ⟨rest, hrec⟩ := hp.rec_
      have I2 := I1.tok (s1.toks + 1)
      have hcs : (PySem.W.clsIn X.K (T.cls c)).isSome = true := by
        obtain ⟨cd, hc, _⟩ := PySem.W.any_some hc.hd
        rw [hc]
        rfl
      cases e3 : F [d] m1 with
      | bad => rw [e3] at h1; exact h1.elim
      | err k es m2 => rw [e3] at h1; exact h1.elim
      | ok y m2 =>
        rw [e3] at h1
        have sp : spD T (["self"] : List Str).length F [V.ref a] H1 Q fun _ _ _ => False := ⟨rfl, ρ1, m1, [d], st1, .cons r .nil, by rw [e3]; exact h1⟩
        refine PySem.W.get_bind I1.kIn J (PySem.W.plainGet_of (hc.get x)).1 (PySem.W.findObj_data hcs hp.at_ hp.get hp.tak) (PySem.W.plainGet_of (hc.get x)).2 (wpAny_call (PySem.W.prop_get (s := { s1 with toks := s1.toks + 1 }) I1.kIn hrec ?_))
        refine codeAny_mono (G.run X.A.in1 X.stack { s1 with toks := s1.toks + 1 } H1 ⟨[.ref a], []⟩ [.ref a] [.ref a] Q _ (rg.mono hk).in1 I2.env0.in1 (by
          have := hb { s1 with toks := s1.toks + 1 } [.ref a] I2.kIn rfl
          rw [List.append_nil] at this; exact this) (.cons rfl .nil) sp) fun r s' hq => ?_
        cases r with
        | error er => obtain ⟨_, _, _, _, _, _, _, _, _, _, _, _, z⟩ := hq; exact z.elim
        | ok fl =>
          cases fl with
          | ret u =>
            obtain ⟨v, H', I3, rv, q3⟩ := I2.after hq
            show wpAny _ _ (handedOut u) _ _ _
            rw [PySem.W.handedOut_of (handed_of rv)]
            exact wpAny_pure ⟨v, H', I3, rv, q3⟩
          | next => exact False.elim hq
          | brk => exact False.elim hq
          | cont => exact False.elim hq
    · exact h1.elim
  · exact h1.elim⟩
end

/-- a def runs, as code -/
theorem run_gC {X : Cx} {W : WX} {k : Nat} {f : Addr} {fd : FuncData} {ps : List Str} {pins : List (Addr × Obj)} {σ : L2.St} {H : Hp} {s : Shared} {Q : VK} {us zs : List Value} {kw : List (Str × Value)} {vs : List V} {sp : Sp} (G : FnG X.prog X.w X.K X.mg X.base k f fd ps sp) (rg : Rg k X.A) (tk : Takes X W)
    (bd : BindsTo s fd ⟨us, kw⟩ (ps.zip zs)) (I : Inv X pins σ H s) (r : Vals vs zs) (h : sp vs H Q (WE W σ)) : codeAny (model X.prog X.w) X.A (.call (.ref f) ⟨us, kw⟩) (fun r s' => match r with | .ok (.ret v) => EP X pins σ Q v s' | .ok _ => False | .error e => X.xe e s') s := by
  refine codeAny_mono (G.run X.A X.stack s H ⟨us, kw⟩ zs vs Q (WE W σ) rg I.env0 bd r h) fun r s' q => ?_
  cases r with
  | error er => exact passAt tk σ pins H s er s' I q
  | ok fl => cases fl with
    | ret u => exact I.after q
    | next => exact q.elim
    | brk => exact q.elim
    | cont => exact q.elim

/-! ### instances called -/
structure CallOk (P : Program) (w : World) (K : PySem.W.Frag) (mg : Str → Option Value) (base : Heap) (T : Tab) (k : Nat) (ps : List Str) (kws : List (Nat × List Str × List Nat)) (disp : Nat → Option FD) : Prop where
  ok : ∀ c F, disp c = some F → ∃ g, StX.CallO K (T.cls c) g ∧ FnAt P w K mg base T k g ps kws F
section
variable {X : Cx} {T : Tab} {W : WX} {pos apos p : Pos} {k j n np c : Nat} {x m : Str} {ps ks : List Str} {kws : List (Nat × List Str × List Nat)} {fe e : Expr} {es : List Expr} {fo : E1} {fL fP : EL} {disp : Nat → Option FD}
/-- f(e, ..), f an instance -/
def callOE (disp : Nat → Option FD) (fo : E1) (fL : EL) : E1 := fun μ m => (fo μ m).bind fun d m1 => match insOf m1 d with
  | some _ => (fL μ m1).bind fun ds m2 => (match insOf m2 d with | some (c, _) => (match disp c with | some F => F (d :: ds) m2 | none => .bad) | none => .bad)
  | none => .bad
theorem pd_callO (M : CallOk X.prog X.w X.K X.mg X.base T k ps kws disp) (rg : Rg j X.A) (hk : k ≤ j) (tk : Takes X W) (hf : PE X fe (TD T W fo)) (ha : PA X (e :: es) (TL T W fL)) [l : LenL fL n] (hn : n + 1 = ps.length := by rfl)
    (ht : eval (.Call fe (e :: es) [] pos) X.env = (do callWith pos (← eval fe X.env) [] (backTo pos (starEach (e :: es) X.env)) (backToKw pos (keywordEach [] X.env))) := by rfl)
    (he : starEach (e :: es) X.env = (false, eval e X.env) :: starEach es X.env := by rfl) (hpl : (backTo pos (starEach es X.env)).any (·.1) = false := by rfl) : PE X (.Call fe (e :: es) [] pos) (TD T W (callOE disp fo fL)) := ⟨fun pins s σ H Q I ⟨ρ, m0, μ, st, ev, h⟩ => by
  obtain ⟨ρ0, m2, μ0, s0, e0, h0⟩ := TD.bind (g := fun d m1 => match insOf m1 d with
      | some _ => (fL μ m1).bind fun ds m2 => (match insOf m2 d with | some (c, _) => (match disp c with | some F => F (d :: ds) m2 | none => .bad) | none => .bad)
      | none => .bad) st ev h
  refine Call_ (thn (hf.run pins s σ H _ I ⟨ρ0, m2, μ0, s0, e0, h0⟩) fun u s1 ⟨xx, H1, I1, rx, ρ1, m1, d, l1, st1, ev1, r, h1⟩ => ?_) ht
  split at h1
  · rename_i cf e1
    obtain ⟨c0, fs0⟩ := cf
    obtain ⟨a, dx, xs, rfl, ea, rr⟩ := insOf_is st1 r e1
    obtain rfl : u = Value.ref a := rx
    refine StX.callO_with (thn (ha.run pos pins s1 σ H1 (fun vs H2 => ∃ ρ2 m2 ds c fs F, StOk T ρ2 m2 H2 ∧ Iss T ρ2 H2 (d :: ds) (.ref a :: vs) ∧ ds.length = n ∧ insOf m2 d = some (c, fs) ∧ disp c = some F ∧ PoD T ρ2 H2 (F (d :: ds) m2) Q fun c d H' => W c d σ H') I1 ?_) fun us s2 ⟨vs, H2, I2, rv, ρ2, m2, ds, c, fs, F, st2, rd, hl, e2, e3, q⟩ => ?_) he hpl
    · refine ⟨ρ1, m1, μ, st1, ev1, ?_⟩
      cases e4 : fL μ m1 with
      | ok ds m4 =>
        rw [e4] at h1
        intro ρ5 H5 vs l5 s5 r5
        simp only [R.bind_ok] at h1
        split at h1
        · rename_i c fs e6
          split at h1
          · rename_i F e7
            exact ⟨ρ5, m4, ds, c, fs, F, s5, .cons (r.le l5) r5, l.len _ _ _ _ e4, e6, e7, Po.le h1 l5⟩
          · exact h1.elim
        · exact h1.elim
      | err c fs m1 => rw [e4] at h1; exact h1
      | bad => rw [e4] at h1; exact h1
    · obtain ⟨g, cc, G⟩ := M.ok c F e3
      obtain ⟨fd, G, hb, _⟩ := G.ex
      cases rd with
      | cons r1 r2 =>
        obtain ⟨a', dx', xs', ez, ea', rr'⟩ := insOf_is st2 r1 e2
        cases ez
        have hi : StX.InsC X H2 a (T.cls c) := .inr ⟨_, _, ea'⟩
        obtain ⟨ox, od, J, hd⟩ := StX.insC_at I2 hi
        refine ⟨⟨_, ox, od, J, hd⟩, wpAny_call (PySem.W.kco_code I2.kIn J hd cc.at_ cc.fn cc.fi ?_)⟩
        have rz : Vals (V.ref a :: vs) (Value.ref a :: us) := .cons rfl rv
        have hlz : (V.ref a :: vs).length = ps.length := by rw [List.length_cons, ← r2.len, hl]; exact hn
        exact run_gC (kw := []) (us := .ref a :: us) G (rg.mono hk) tk (by
          have := hb s2 (.ref a :: us) I2.kIn (by rw [List.append_nil, ← rz.length]; exact hlz)
          rw [List.append_nil] at this; exact this) I2 rz ⟨hlz, ρ2, m2, d :: ds, st2, .cons r1 r2, q⟩
  · exact h1.elim⟩
end
end DL
end

section
set_option Elab.async false
set_option maxRecDepth 100000
set_option maxHeartbeats 4000000
set_option linter.all false
/-! D23: == and != by an own __eq__. -/
namespace PySem.W
open Sem (wp)
open Builtin PyProof.Rows PyProof
section
variable {prog : Program} {w : World} {A A₀ : Around} {E : Value → Shared → Prop} {s : Shared} {K : Frag} {x C L f : Addr} {h₀ : Heap} {m : Str → Option Value} {ox : Obj} {od : Option Obj} {name : Str} {b tb : Value}
theorem ifBound_B {M : Model} {id : String} {args : List Value} {Q : Option Value → Shared → Prop} (X : K.In s.heap) (I : InstAt s.heap x ox C od) (hs : findIn K (.ref C) name = some (some (.builtin id))) (hb : ∀ self, bindSpecial (.builtin id) self = pure (.builtin id, [self]))
    (h : wpAny M A (call (.builtin id) (.ref x :: args)) (fun v => Q (some v)) E s) : wpAny M A (callSpecialIfBound? (.ref x) name args) Q E s := by
  simp only [callSpecialIfBound?, bindSpecialIfBound?]
  refine wpAny_holding (wpAny_bind (wpAny_bind (wpAny_bind (I.type.here ((looks_findIn X hs).here ?_)))))
  simp only [hb]
  refine wpAny_bind (wpAny_askSetting (wpAny_ite ?_))
  have fin : wpAny M A (call (.builtin id) ([.ref x] ++ args) >>= fun v => pure (some v)) Q E s := wpAny_bind (wpAny_mono h (fun v s' h' => wpAny_pure h') fun _ _ h' => h')
  split
  · exact wpAny_bind (wpAny_pure (wpAny_pure (by exact fin)))
  · exact wpAny_tryCatch (wpAny_bind (wpAny_pure (wpAny_pure (by exact fin))))
theorem ne_bind (self : Value) : bindSpecial (.builtin "object.__ne__") self = pure (.builtin "object.__ne__", [self]) :=
  (Slot.of (T := "object") (name := "__ne__") (owner := "object") (n := "__ne__") (by rw [typeLookup_type, builtinLookup_eq_fast]; kernel_rfl) (by decide +kernel) (by decide +kernel) (by decide +kernel)
    (.inl (by decide +kernel)) (by rw [isSubtype_type]; kernel_rfl)).bind self
theorem ne_plain : (Slot.of (T := "object") (name := "__ne__") (id := "object.__ne__") (owner := "object") (n := "__ne__") (by rw [typeLookup_type, builtinLookup_eq_fast]; kernel_rfl) (by decide +kernel) (by decide +kernel) (by decide +kernel)
    (.inl (by decide +kernel)) (by rw [isSubtype_type]; kernel_rfl)).plain = (Slot.of (T := "object") (name := "__ne__") (id := "object.__ne__") (owner := "object") (n := "__ne__") (by rw [typeLookup_type, builtinLookup_eq_fast]; kernel_rfl) (by decide +kernel) (by decide +kernel) (by decide +kernel)
    (.inl (by decide +kernel)) (by rw [isSubtype_type]; kernel_rfl)).plain := rfl
theorem ne_slot : Slot "object" "__ne__" "object.__ne__" := Slot.of (owner := "object") (n := "__ne__") (by rw [typeLookup_type, builtinLookup_eq_fast]; kernel_rfl) (by decide +kernel) (by decide +kernel) (by decide +kernel)
    (.inl (by decide +kernel)) (by rw [isSubtype_type]; kernel_rfl)
theorem check_inst {M : Model} {id owner n : String} {rest : List Value} {Q : Unit → Shared → Prop} (hk : builtinKind id = some .slot) (hs : splitId id = some (owner, n)) (ha : argsOk id ⟨.ref x :: rest, []⟩) (X : K.In s.heap) (I : InstAt s.heap x ox C od)
    (hob : subIn K (.ref C) (.type owner) = some true) (hq : Q () s) : wpAny M A (checkBuiltinCall id ⟨.ref x :: rest, []⟩) Q E s := by
  simp only [checkBuiltinCall, hk, hs]
  refine wpAny_bind ?_
  unfold isInstance
  refine wpAny_bind (I.type.here ((looks_subIn X hob).here ?_))
  cases hsig : Manifest.signature? id with
  | none => exact wpAny_pure hq
  | some sig =>
    simp only [argsOk, hsig] at ha
    have h2 : Bind.checkArgs id sig ⟨.ref x :: rest, []⟩ = pure () := ha
    show wpAny M A (Bind.checkArgs id sig ⟨.ref x :: rest, []⟩) Q E _
    rw [h2]; exact wpAny_pure hq
theorem objNe_own (X : K.In s.heap) (I : InstAt s.heap x ox C od) (heq : findIn K (.ref C) "__eq__" = some (some (.ref f))) (hf : isFn K (.ref f) = true) (hu : A.units < cLine) {Q : Fin → Shared → Prop}
    (hcall : wpAny (model prog w) A (call (.ref f) [.ref x, b]) (fun v s' => ∃ k, v = .bool k ∧ Q (.done (.ret (.bool (!k)))) s') E s) :
    wpAny (model prog w) A (Builtin.«object.__ne__» ⟨[.ref x, b], []⟩) Q E s := by
  unfold Builtin.«object.__ne__»
  repeat (first
    | with_reducible refine wpAny_cRoomFor hu ?_
    | (refine wpAny_bind (m := callSpecialIfBound? (.ref x) (Str.ofString "__eq__") [b])
        (ifBound_K X I heq hf (wpAny_mono hcall (fun r s' hr => by
          obtain ⟨k, rfl, hq⟩ := hr
          repeat (first | exact hq | exact wpAny_pure hq | exact wpAny_truthy_bool hq | (refine wpAny_bind (m := truthy (.bool _)) (wpAny_truthy_bool ?_)) | wp_step)) fun _ _ e => e)))
    | wp_step)
theorem ne_inst {Q : Value → Shared → Prop} (hu : A.units + 1 < cLine) (F : Fr h₀ L s.heap m) (X₀ : K.In h₀) (I : InstAt s.heap x ox C od) (hb : Looks (model prog w) s.heap (typeOf b) tb) (hn : notFirst K C tb = true)
    (hne : findIn K (.ref C) "__ne__" = some (some (.builtin "object.__ne__"))) (heq : findIn K (.ref C) "__eq__" = some (some (.ref f))) (hf : isFn K (.ref f) = true) (hob : subIn K (.ref C) (.type "object") = some true)
    (h : wpAny (model prog w) A.in1 (call (.ref f) [.ref x, b]) (fun v s' => ∃ k, v = .bool k ∧ Q (.bool (!k)) s') E s) : wpAny (model prog w) A (richCompare .NotEq (.ref x) b) Q E s := by
  have X := X₀.keeps F.keep
  have one : wpAny (model prog w) A (tryCompare (.ref x) "__ne__" b) (fun r s' => ∃ v, r = some v ∧ Q v s') E s := by
    unfold tryCompare
    refine wpAny_bind (ifBound_B X I hne ne_bind (wpAny_call (codeAny_call_builtin ne_slot.plain PySem.F.cmpEntry_ne (check_inst PySem.F.cmpKind_ne PySem.F.cmpSplit_ne (PySem.F.cmpArgs_ne _ _) X I hob (objNe_own (A := A.in1) X I heq hf hu (wpAny_mono h (fun v s' hv => ?_) fun _ _ e => e))))))
    obtain ⟨k, rfl, hq⟩ := hv
    first | exact ⟨k, rfl, wpAny_pure ⟨_, rfl, hq⟩⟩ | exact ⟨k, rfl, wpAny_pure (wpAny_pure ⟨_, rfl, hq⟩)⟩ | exact ⟨k, rfl, ⟨_, rfl, hq⟩⟩
  unfold richCompare
  simp only [oneThing_ref]
  refine wpAny_holding (wpAny_bind (wpAny_cRoomFor (Nat.lt_of_succ_lt hu) ?_))
  rw [cmpInfo_NotEq]
  dsimp only
  refine wpAny_bind (I.type.here (wpAny_bind (hb.here ?_)))
  split
  · rename_i q
    have e : subIn K tb (.ref C) = some false := by
      rcases Bool.or_eq_true_iff.mp hn with e | e
      · rw [beq_iff_eq.mp e] at q; simp at q
      · exact beq_iff_eq.mp e
    refine wpAny_bind ((looks_subIn X e).here ?_)
    simp only [Bool.false_eq_true, if_false]
    refine wpAny_bind (wpAny_mono one (fun r s' z => ?_) fun _ _ e => e)
    obtain ⟨v, rfl, hq⟩ := z
    exact wpAny_pure hq
  · refine wpAny_bind (wpAny_pure ?_)
    simp only [Bool.false_eq_true, if_false]
    refine wpAny_bind (wpAny_mono one (fun r s' z => ?_) fun _ _ e => e)
    obtain ⟨v, rfl, hq⟩ := z
    exact wpAny_pure hq
end
end PySem.W
end

section
set_option Elab.async false
set_option maxRecDepth 100000
set_option maxHeartbeats 4000000
set_option linter.all false
/-! D24: own == and != by values; classmethods; a class held by a local name. -/
namespace DL
open PySem PySem.Spec PyProof.Rows L2

/-- the operator's function tells the rule, in the table T -/
def OpDT (T : Tab) (r : R2) (g : OpF) : Prop := ∀ (ρ : List Addr) (m : S) (H : Hp) (x y : D) (v w : V) (Q : VK) (E : XK), StOk T ρ m H → Is T ρ H x v → Is T ρ H y w → PoD T ρ H (g x y m) Q E → r v w H Q
theorem OpD.at {r : R2} {g : OpF} (h : OpD r g) (T : Tab) : OpDT T r g := h T
section
variable {X : Cx} {T : Tab} {W : WX} {pos : Pos}
theorem pd_cmpT {a b : Expr} {op : CmpOp} {r : R2} {g : OpF} {f1 f2 : E1} (hg : OpDT T r g) (ho : OpR X (compareOp op) r) (hm : behindInMarks op b = false) (ha : PE X a (TD T W f1)) (hb : PE X b (TD T W f2)) : PE X (.Compare a [op] [b] pos) (TD T W (bin g f1 f2)) :=
  pe_imp (pe_cmpR ho ha hb hm) fun σ H Q ⟨ρ, m, μ, st, ev, h⟩ => by
    obtain ⟨ρ0, m0, μ0, s0, e0, h0⟩ := TD.bind st ev h
    refine ⟨ρ0, m0, μ0, s0, e0, h0.mono (fun v H1 ⟨ρ1, m1, d, l1, st1, ev1, r1, h1⟩ => ?_) fun _ _ _ z => z⟩
    obtain ⟨ρ0, m0, μ0, s0, e0, h0⟩ := TD.bind st1 ev1 h1
    refine ⟨ρ0, m0, μ0, s0, e0, h0.mono (fun w H2 ⟨ρ2, m2, d2, l2, st2, ev2, r2, h2⟩ => ?_) fun _ _ _ z => z⟩
    exact hg ρ2 m2 H2 d d2 v w Q _ st2 (r1.le l2) r2 h2
theorem td_cmpT {a b : Expr} {op : CmpOp} {r : R2} {g : OpF} {f1 f2 : E1} (hg : OpDT T r g) (ho : OpR X (compareOp op) r) (hm : behindInMarks op b = false) (ha : PE X a (TD T W f1)) (hb : PE X b (TD T W f2)) : PT X (.Compare a [op] [b] pos) (TB T W (isB (bin g f1 f2))) :=
  pt_imp (pt_cmpR ho ha hb hm) fun σ H Q ⟨ρ, m, μ, st, ev, h⟩ => by
    unfold isB bin at h
    have ass : ∀ (r : R D) (k : D → S → R D) (k2 : D → S → R Bool), (r.bind k).bind k2 = r.bind fun d m => (k d m).bind k2 := fun r k k2 => by cases r <;> rfl
    rw [ass] at h
    obtain ⟨ρ0, m0, μ0, s0, e0, h0⟩ := TD.bind st ev h
    refine ⟨ρ0, m0, μ0, s0, e0, h0.mono (fun v H1 ⟨ρ1, m1, d, l1, st1, ev1, r1, h1⟩ => ?_) fun _ _ _ z => z⟩
    rw [ass] at h1
    obtain ⟨ρ0, m0, μ0, s0, e0, h0⟩ := TD.bind st1 ev1 h1
    refine ⟨ρ0, m0, μ0, s0, e0, h0.mono (fun w H2 ⟨ρ2, m2, d2, l2, st2, ev2, r2, h2⟩ => ?_) fun _ _ _ z => z⟩
    refine hg ρ2 m2 H2 d d2 v w _ (fun c d H' => W c d σ H') st2 (r1.le l2) r2 ?_
    cases e : g d d2 m2 with
    | ok z m3 =>
      rw [e] at h2
      intro ρ3 H3 u l3 s3 r3
      cases r3 with
      | bl b => exact ⟨b, rfl, h2 ρ3 H3 b l3 s3 rfl⟩
      | _ => exact h2.elim
    | err c fs m3 => rw [e] at h2; exact h2
    | bad => rw [e] at h2; exact h2
end

/-! ### own == -/
/-- only a truth value, no exception -/
def onlyBl : R D → R D
  | .ok (.bl b) m => .ok (.bl b) m
  | _ => .bad
/-- the class's type before it, in a comparison -/
def kindOf (T : Tab) (m : S) (y : D) : Option Value := match insOf m y with
  | some (c, _) => some (.ref (T.cls c))
  | none => (tyOf m y).map .type
def eqO (T : Tab) (disp : Nat → Option FD) (ok : Nat → Value → Bool) : OpF := fun x y m => match insOf m x with
  | some (c, _) => (match disp c, kindOf T m y with
    | some F, some t => if ok c t = true then onlyBl (F [x, y] m) else .bad
    | _, _ => .bad)
  | none => eqF x y m
def neO (T : Tab) (disp : Nat → Option FD) (ok : Nat → Value → Bool) : OpF := fun x y m => match insOf m x with
  | some (c, _) => (match disp c, kindOf T m y with
    | some F, some t => if ok c t = true then (onlyBl (F [x, y] m)).bind fun d m1 => (match d with | .bl b => .ok (.bl (!b)) m1 | _ => .bad) else .bad
    | _, _ => .bad)
  | none => neF x y m
structure EqOk (P : Program) (w : World) (K : PySem.W.Frag) (mg : Str → Option Value) (base : Heap) (T : Tab) (k : Nat) (ps : List Str) (disp : Nat → Option FD) (oks : Nat → Value → Bool) : Prop where
  ok : ∀ c F, disp c = some F → ∃ f, PySem.W.findIn K (.ref (T.cls c)) "__eq__" = some (some (.ref f)) ∧ PySem.W.isFn K (.ref f) = true ∧ FnAt P w K mg base T k f ps [] F ∧
    PySem.W.findIn K (.ref (T.cls c)) "__ne__" = some (some (.builtin "object.__ne__")) ∧ PySem.W.subIn K (.ref (T.cls c)) (.type "object") = some true
  fst : ∀ c t, oks c t = true → PySem.W.notFirst K (T.cls c) t = true
/-- how a value's type is seen -/
theorem kind_looks {X : Cx} {T : Tab} {ρ : List Addr} {m : S} {H : Hp} {pins : List (Addr × Obj)} {σ : L2.St} {s : Shared} {y : D} {w : V} {u : Value} {t : Value} (st : StOk T ρ m H) (I : Inv X pins σ H s) (r : Is T ρ H y w) (rv : RelV w u) (e : kindOf T m y = some t) (M : Model) : PySem.W.Looks M s.heap (typeOf u) t := by
  unfold kindOf at e
  split at e
  · rename_i c fs e1
    cases e
    obtain ⟨a, dx, xs, rfl, ha, _⟩ := insOf_is st r e1
    obtain rfl : u = Value.ref a := rv
    obtain ⟨mA, O, _, _, _, _⟩ := ins_get I.hok ha
    obtain ⟨od, J, _⟩ := O.look
    exact J.type
  · obtain ⟨n, e1, e2⟩ := Option.map_eq_some_iff.mp e
    subst e2
    obtain ⟨P, k, p, _⟩ := kit_of I rv (tyOf_is (K := X.K) st r e1)
    exact k.ty M s.heap I.kIn p
def rEqO (X : Cx) (T : Tab) (disp : Nat → Option FD) (ok : Nat → Value → Bool) (neg : Bool) : R2 := fun v w H Q => ∃ ρ m x y c fs F t b, StOk T ρ m H ∧ Is T ρ H x v ∧ Is T ρ H y w ∧ insOf m x = some (c, fs) ∧ disp c = some F ∧ kindOf T m y = some t ∧ ok c t = true ∧ (∃ m1, F [x, y] m = .ok (.bl b) m1) ∧
  PoD T ρ H (F [x, y] m) (fun _ H' => Q (.bl (if neg = true then !b else b)) H') fun _ _ _ => False
section
variable {X : Cx} {T : Tab} {W : WX} {pos : Pos} {k j : Nat} {ps : List Str} {disp : Nat → Option FD} {ok : Nat → Value → Bool}
theorem eq_run {A : Around} {F : FD} {f : Addr} {ρ : List Addr} {m : S} {H : Hp} {x y : D} {v w : V} {u2 : Value} {a : Addr} {b : Bool} {pins : List (Addr × Obj)} {σ : L2.St} {s : Shared} {Q : VK} (G : FnAt X.prog X.w X.K X.mg X.base T k f ps [] F) (rg : Rg k A) (e0 : Env0 X.prog X.w X.K X.mg X.base A X.stack s H) (hn : 2 = ps.length) (I : Inv X pins σ H s)
    (st : StOk T ρ m H) (rx : Is T ρ H x v) (ry : Is T ρ H y w) (ev : v = .ref a) (rw' : RelV w u2) (hb1 : ∃ m1, F [x, y] m = .ok (.bl b) m1) (h : PoD T ρ H (F [x, y] m) (fun _ H' => Q (.bl b) H') fun _ _ _ => False) (E : Value → Shared → Prop) :
    wpAny (model X.prog X.w) A (call (.ref f) [.ref a, u2]) (fun v s' => ∃ H', Inv X pins σ H' s' ∧ v = .bool b ∧ Q (.bl b) H') E s := by
  obtain ⟨fd, G, hbd, _⟩ := G.ex
  subst ev
  obtain ⟨m1, e1⟩ := hb1
  have sp : spD T ps.length F [V.ref a, w] H (fun v H' => v = .bl b ∧ Q (.bl b) H') fun _ _ _ => False := ⟨hn, ρ, m, [x, y], st, .cons rx (.cons ry .nil), by
    rw [e1] at h ⊢
    exact fun ρ' H' b' l s r => ⟨r.bl_inv, h ρ' H' b' l s r⟩⟩
  have r2 : Vals [V.ref a, w] [Value.ref a, u2] := .cons rfl (.cons rw' .nil)
  refine wpAny_call (codeAny_mono (G.run A X.stack s H ⟨[.ref a, u2], []⟩ [.ref a, u2] [.ref a, w] _ _ rg e0 (by
    have := hbd s [.ref a, u2] I.kIn (by rw [List.append_nil]; exact hn)
    rw [List.append_nil] at this; exact this) r2 sp) fun r s' hq => ?_)
  cases r with
  | error er => obtain ⟨_, _, _, _, _, _, _, _, _, _, _, _, z⟩ := hq; exact z.elim
  | ok fl =>
    cases fl with
    | ret z =>
      obtain ⟨v', H', I', rz, ez, q⟩ := I.after hq
      subst ez
      cases rz
      exact ⟨H', I', rfl, q⟩
    | next => exact False.elim hq
    | brk => exact False.elim hq
    | cont => exact False.elim hq
theorem op_eqO (M : EqOk X.prog X.w X.K X.mg X.base T k ps disp ok) (rg : Rg k X.A) (hn : 2 = ps.length) : OpR X (compareOp .Eq) (rEqO X T disp ok false) := by
  intro pins s σ H v w u u2 Q I rv rw' ⟨ρ, m, x, y, c, fs, F, t, b, st, rx, ry, e1, e2, e3, e4, e5, h⟩
  obtain ⟨f, hs, hf, G, _, _⟩ := M.ok c F e2
  obtain ⟨a, dx, xs, rfl, ha, _⟩ := insOf_is st rx e1
  obtain rfl : u = Value.ref a := rv
  obtain ⟨mA, O, _, _, _, _⟩ := ins_get I.hok ha
  obtain ⟨od, J, _⟩ := O.look
  obtain ⟨mF, hF⟩ := I.fr
  refine PySem.W.cmp_K (op := .Eq) (tb := t) rg.room.units0 hF I.ok.mod.kin J (kind_looks st I ry rw' e3 _) (M.fst c t e4) hs hf ?_
  refine wpAny_mono (eq_run (b := b) G rg I.env0 hn I st rx ry rfl rw' e5 h X.xe) (fun z s' hz => ?_) fun _ _ e => e
  obtain ⟨H', I', rfl, q⟩ := hz
  exact ⟨.bl b, H', I', rfl, q⟩
theorem op_neO (M : EqOk X.prog X.w X.K X.mg X.base T k ps disp ok) (rg : Rg (k + 1) X.A) (hn : 2 = ps.length) : OpR X (compareOp .NotEq) (rEqO X T disp ok true) := by
  intro pins s σ H v w u u2 Q I rv rw' ⟨ρ, m, x, y, c, fs, F, t, b, st, rx, ry, e1, e2, e3, e4, e5, h⟩
  obtain ⟨f, hs, hf, G, hne, hob⟩ := M.ok c F e2
  obtain ⟨a, dx, xs, rfl, ha, _⟩ := insOf_is st rx e1
  obtain rfl : u = Value.ref a := rv
  obtain ⟨mA, O, _, _, _, _⟩ := ins_get I.hok ha
  obtain ⟨od, J, _⟩ := O.look
  obtain ⟨mF, hF⟩ := I.fr
  show wpAny (model X.prog X.w) X.A (richCompare .NotEq (.ref a) u2) (EP X pins σ Q) X.xe s
  refine PySem.W.ne_inst (tb := t) (by have := rg.room.un; have e : cLine = 9900 := rfl; rw [e] at this ⊢; omega) hF I.ok.mod.kin J (kind_looks st I ry rw' e3 _) (M.fst c t e4) hne hs hf hob ?_
  refine wpAny_mono (eq_run (b := b) (Q := fun _ H' => Q (.bl (!b)) H') G rg.in1 I.env0.in1 hn I st rx ry rfl rw' e5 h X.xe) (fun z s' hz => ?_) fun _ _ e => e
  obtain ⟨H', I', rfl, q⟩ := hz
  exact ⟨b, rfl, .bl (!b), H', I', rfl, q⟩
theorem od_eqO : OpDT T (fun v w H Q => rEq2 X.K v w H Q ∨ rEqO X T disp ok false v w H Q) (eqO T disp ok) := by
  intro ρ m H x y v w Q E st rx ry h
  unfold eqO at h
  split at h
  · rename_i c fs e1
    split at h
    · rename_i F t e2 e3
      split at h
      · rename_i e4
        cases e5 : F [x, y] m with
        | ok d m1 =>
          rw [e5] at h
          cases d with
          | bl b => exact .inr ⟨ρ, m, x, y, c, fs, F, t, b, st, rx, ry, e1, e2, e3, e4, ⟨m1, e5⟩, by rw [e5]; exact fun ρ' H' b' l s r => h ρ' H' (.bl b) l s (.bl b)⟩
          | _ => exact h.elim
        | err c fs m1 => rw [e5] at h; exact h.elim
        | bad => rw [e5] at h; exact h.elim
      · exact h.elim
    · exact h.elim
  · exact .inl (od_eq T ρ m H x y v w Q E st rx ry h)
theorem od_neO : OpDT T (fun v w H Q => rNe2 X.K v w H Q ∨ rEqO X T disp ok true v w H Q) (neO T disp ok) := by
  intro ρ m H x y v w Q E st rx ry h
  unfold neO at h
  split at h
  · rename_i c fs e1
    split at h
    · rename_i F t e2 e3
      split at h
      · rename_i e4
        cases e5 : F [x, y] m with
        | ok d m1 =>
          rw [e5] at h
          cases d with
          | bl b => exact .inr ⟨ρ, m, x, y, c, fs, F, t, b, st, rx, ry, e1, e2, e3, e4, ⟨m1, e5⟩, by rw [e5]; exact fun ρ' H' b' l s r => h ρ' H' (.bl (!b)) l s (.bl (!b))⟩
          | _ => exact h.elim
        | err c fs m1 => rw [e5] at h; exact h.elim
        | bad => rw [e5] at h; exact h.elim
      · exact h.elim
    · exact h.elim
  · exact .inl (od_ne T ρ m H x y v w Q E st rx ry h)
theorem r5 {A : Around} (r : Rg 5 A) : A.units + 64 < 9900 := by have d2 : A.units + 16 * 5 + 200 < 9900 := r.room.un; omega
theorem pd_eqO {a b : Expr} {f g : E1} (M : EqOk X.prog X.w X.K X.mg X.base T k ps disp ok) (rg : Rg j X.A) (hk : k + 1 ≤ j) (hj : 5 ≤ j) (ha : PE X a (TD T W f)) (hb : PE X b (TD T W g)) (hn : 2 = ps.length := by rfl) (hm : behindInMarks .Eq b = false := by rfl) : PE X (.Compare a [.Eq] [b] pos) (TD T W (bin (eqO T disp ok) f g)) :=
  pd_cmpT (od_eqO (X := X)) (OpR.or (OpR.or op_eq (op_eqD (r5 (rg.mono hj)))) (op_eqO M (rg.mono (Nat.le_trans (Nat.le_succ _) hk)) hn)) hm ha hb
theorem pd_neO {a b : Expr} {f g : E1} (M : EqOk X.prog X.w X.K X.mg X.base T k ps disp ok) (rg : Rg j X.A) (hk : k + 1 ≤ j) (hj : 5 ≤ j) (ha : PE X a (TD T W f)) (hb : PE X b (TD T W g)) (hn : 2 = ps.length := by rfl) (hm : behindInMarks .NotEq b = false := by rfl) : PE X (.Compare a [.NotEq] [b] pos) (TD T W (bin (neO T disp ok) f g)) :=
  pd_cmpT (od_neO (X := X)) (OpR.or (OpR.or op_ne (op_neD (r5 (rg.mono hj)))) (op_neO M (rg.mono hk) hn)) hm ha hb
theorem td_eqO {a b : Expr} {f g : E1} (M : EqOk X.prog X.w X.K X.mg X.base T k ps disp ok) (rg : Rg j X.A) (hk : k + 1 ≤ j) (hj : 5 ≤ j) (ha : PE X a (TD T W f)) (hb : PE X b (TD T W g)) (hn : 2 = ps.length := by rfl) (hm : behindInMarks .Eq b = false := by rfl) : PT X (.Compare a [.Eq] [b] pos) (TB T W (isB (bin (eqO T disp ok) f g))) :=
  td_cmpT (od_eqO (X := X)) (OpR.or (OpR.or op_eq (op_eqD (r5 (rg.mono hj)))) (op_eqO M (rg.mono (Nat.le_trans (Nat.le_succ _) hk)) hn)) hm ha hb
theorem td_neO {a b : Expr} {f g : E1} (M : EqOk X.prog X.w X.K X.mg X.base T k ps disp ok) (rg : Rg j X.A) (hk : k + 1 ≤ j) (hj : 5 ≤ j) (ha : PE X a (TD T W f)) (hb : PE X b (TD T W g)) (hn : 2 = ps.length := by rfl) (hm : behindInMarks .NotEq b = false := by rfl) : PT X (.Compare a [.NotEq] [b] pos) (TB T W (isB (bin (neO T disp ok) f g))) :=
  td_cmpT (od_neO (X := X)) (OpR.or (OpR.or op_ne (op_neD (r5 (rg.mono hj)))) (op_neO M (rg.mono hk) hn)) hm ha hb
end
end DL
end

section
set_option Elab.async false
set_option maxRecDepth 100000
set_option maxHeartbeats 4000000
set_option linter.all false
/-! D25: classmethods; a class held by a local name. -/
namespace PySem.W
open Sem (wp)
open Builtin PyProof.Rows PyProof
section
variable {A : Around} {E : Value → Shared → Prop} {s : Shared} {K : Frag}
theorem callWith_MK0 {M : Model} {env : Env} {pos : Pos} {q g : Addr} {self : Value} {first : List Value} {Q : Value → Shared → Prop} {kws : List Keyword} (hf : fnIn K g = true) (hall : (backToKw pos (keywordEach kws env)).all (·.1.isSome) = true)
    (h : wpAny M A (evalAll ((backToKw pos (keywordEach kws env)).map (·.2))) (fun ks s₂ => MethP K q g self s₂.heap ∧ wpAny M A (call (.ref q) (first ++ []) (((backToKw pos (keywordEach kws env)).filterMap (·.1)).zip ks)) Q E s₂) E s)
    (hplain : ((backTo pos (starEach [] env)).any (·.1) || (backToKw pos (keywordEach kws env)).any (·.1.isNone)) = false := by rfl) :
    wpAny M A (callWith pos (.ref q) first (backTo pos (starEach [] env)) (backToKw pos (keywordEach kws env))) Q E s :=
  callWith_of hplain (keeps_M hf) (evalArgs_kw2_nil hall h)
end
end PySem.W
namespace DL
open PySem PySem.Spec PyProof.Rows L2

/-- a classmethod m of the class C -/
structure CmOk (P : Program) (w : World) (K : PySem.W.Frag) (mg : Str → Option Value) (base : Heap) (T : Tab) (k : Nat) (C : Addr) (x m : Str) (ps : List Str) (kws : List (Nat × List Str × List Nat)) (F : FD) : Prop where
  ex : ∃ mc p g, ClX.CRead K C mc ∧ ClX.CMet K C mc m p g ∧ FnAt P w K mg base T k g ps kws F
  at_ : mg x = some (.ref C)
def cmE (C : Addr) (F : FD) (fL : EL) : E1 := fun μ m => (fL μ m).bind fun ds m1 => F (.con (.ref C) :: ds) m1
def cmK (C : Addr) (F : FD) (idx : List Nat) (fL : EL) : E1 := fun μ m => (fL μ m).bind fun ds m1 => F (pick idx (.con (.ref C) :: ds)) m1
section
variable {X : Cx} {T : Tab} {W : WX} {pos apos p : Pos} {k j n : Nat} {C : Addr} {x m : Str} {ps ks : List Str} {kws : List (Nat × List Str × List Nat)} {e : Expr} {es : List Expr} {fL : EL} {idx : List Nat} {kw : List Keyword} {F : FD}
theorem run_cmG {q g : Addr} {fd : FuncData} {sp : Sp} {Q : VK} {us zs : List Value} {kwv : List (Str × Value)} {vs : List V} {pins : List (Addr × Obj)} {σ : L2.St} {H : Hp} {s : Shared} (G : FnG X.prog X.w X.K X.mg X.base k g fd ps sp) (rg : Rg k X.A) (tk : Takes X W) (I : Inv X ((q, PySem.W.methodObj (.ref g) (.ref C)) :: pins) σ H s)
    (bd : BindsTo s fd ⟨.ref C :: us, kwv⟩ (ps.zip zs)) (r : Vals vs zs) (h : sp vs H Q (WE W σ)) : wpAny (model X.prog X.w) X.A (call (.ref q) us kwv) (EP X pins σ Q) X.xe s := by
  have z : wpAny (model X.prog X.w) X.A (call (.ref q) us kwv) (EP X ((q, PySem.W.methodObj (.ref g) (.ref C)) :: pins) σ Q) X.xe s :=
    wpAny_call (PySem.W.method_call (ClX.pin_at I) (run_gC (us := .ref C :: us) G rg tk bd I r h))
  exact thn z fun _ _ y => ClX.unpinE y
/-- C.m(e, ..) -/
theorem pd_cm (N : CmOk X.prog X.w X.K X.mg X.base T k C x m ps kws F) (rg : Rg j X.A) (hk : k ≤ j) (tk : Takes X W) (hg : Gl X x) (ha : PA X (e :: es) (TL T W fL)) [l : LenL fL n] (hn : n + 1 = ps.length := by rfl) (hdb : (x == ("__debug__" : Str)) = false := by decide) {pl : Sem Bool}
    (hst : starEach (e :: es) X.env = (false, eval e X.env) :: starEach es X.env := by rfl) (hpl : (backTo pos (starEach es X.env)).any (·.1) = false := by rfl)
    (ht : eval (.Call (.Attribute (.Name x p) m apos) (e :: es) [] pos) X.env = (do
      let ov ← eval (.Name x p) X.env
      standAt apos.atName
      let (f, first) ← holding [ov] (getMethod ov m pl)
      callWith pos f first (backTo pos (starEach (e :: es) X.env)) (backToKw pos (keywordEach [] X.env))) := by rfl) :
    PE X (.Call (.Attribute (.Name x p) m apos) (e :: es) [] pos) (TD T W (cmE C F fL)) := ⟨fun pins s σ H Q I ⟨ρ, m0, μ, st, ev, h⟩ => by
  obtain ⟨⟨mc, pp, g, r, c, G⟩, hm⟩ := (⟨N.ex, N.at_⟩ : _ ∧ _)
  obtain ⟨fd, G, hb, _⟩ := G.ex
  refine PySem.W.methodCall_KW (pl := pl) (thn ((pe_glob (pos := p) hg hm (v := .ref C) rfl hdb).run pins s σ H (fun v H1 => v = .ref C ∧ H1 = H) I ⟨rfl, rfl⟩) fun u s1 ⟨xx, H1, I1, rx, ex, eH⟩ => ?_) ht
  subst ex; subst eH
  obtain rfl : u = Value.ref C := rx
  refine ClX.getmethcm_ok I1 r c fun s2 I2 => ?_
  refine ClX.callwith_cm I2 (ClX.base_none I1 (Nat.le_refl _)) c.fi (thn (ha.run pos _ s2 σ H1 (fun vs H2 => spD T ps.length F (.ref C :: vs) H2 Q (WE W σ)) I2 ?_) fun us s3 ⟨vs, H2, I3, rv, q2⟩ => ⟨⟨ClX.pin_at I3, I3.kIn⟩, ?_⟩) hst hpl
  · refine ⟨ρ, m0, μ, st, ev, ?_⟩
    unfold cmE at h
    cases e4 : fL μ m0 with
    | ok ds m4 =>
      rw [e4] at h
      intro ρ5 H5 vs l5 s5 r5
      exact ⟨by rw [List.length_cons, ← r5.len, l.len _ _ _ _ e4]; exact hn, ρ5, m4, .con (.ref C) :: ds, s5, .cons (.con _) r5, Po.le h l5⟩
    | err c fs m1 => rw [e4] at h; exact h
    | bad => rw [e4] at h; exact h
  · have r2 : Vals (V.ref C :: vs) (Value.ref C :: us) := .cons rfl rv
    exact run_cmG (kwv := []) G (rg.mono hk) tk I3 (by
      have := hb s3 (.ref C :: us) I3.kIn (by rw [List.append_nil, ← r2.length]; exact q2.1)
      rw [List.append_nil] at this; exact this) r2 q2⟩
/-- C.m(k = v, ..) -/
theorem pd_cmK (N : CmOk X.prog X.w X.K X.mg X.base T k C x m ps kws F) (rg : Rg j X.A) (hk : k ≤ j) (tk : Takes X W) (hg : Gl X x) (hq : (1, ks, idx) ∈ kws) (ha : PK X kw (TL T W fL)) [l : LenL fL ks.length]
    (hi : idx.all (fun i => decide (i < ks.length + 1)) = true := by rfl) (hl : idx.length = ps.length := by rfl) (hdb : (x == ("__debug__" : Str)) = false := by decide) {pl : Sem Bool}
    (hall : (backToKw pos (keywordEach kw X.env)).all (·.1.isSome) = true := by rfl) (hks : (backToKw pos (keywordEach kw X.env)).filterMap (·.1) = ks := by rfl)
    (hpl : ((backTo pos (starEach [] X.env)).any (·.1) || (backToKw pos (keywordEach kw X.env)).any (·.1.isNone)) = false := by rfl)
    (ht : eval (.Call (.Attribute (.Name x p) m apos) [] kw pos) X.env = (do
      let ov ← eval (.Name x p) X.env
      standAt apos.atName
      let (f, first) ← holding [ov] (getMethod ov m pl)
      callWith pos f first (backTo pos (starEach [] X.env)) (backToKw pos (keywordEach kw X.env))) := by rfl) :
    PE X (.Call (.Attribute (.Name x p) m apos) [] kw pos) (TD T W (cmK C F idx fL)) := ⟨fun pins s σ H Q I ⟨ρ, m0, μ, st, ev, h⟩ => by
  obtain ⟨⟨mc, pp, g, r, c, G⟩, hm⟩ := (⟨N.ex, N.at_⟩ : _ ∧ _)
  obtain ⟨fd, G, _, hb⟩ := G.ex
  refine PySem.W.methodCall_KW (pl := pl) (thn ((pe_glob (pos := p) hg hm (v := .ref C) rfl hdb).run pins s σ H (fun v H1 => v = .ref C ∧ H1 = H) I ⟨rfl, rfl⟩) fun u s1 ⟨xx, H1, I1, rx, ex, eH⟩ => ?_) ht
  subst ex; subst eH
  obtain rfl : u = Value.ref C := rx
  refine ClX.getmethcm_ok I1 r c fun s2 I2 => ?_
  refine PySem.W.callWith_MK0 (K := X.K) (first := []) (g := g) (self := .ref C) c.fi hall (thn (ha.run pos _ s2 σ H1 (fun vs H2 => vs.length = ks.length ∧ spD T ps.length F (pick idx (.ref C :: vs)) H2 Q (WE W σ)) I2 ?_) fun us s3 ⟨vs, H2, I3, rv, hv, q2⟩ => ⟨⟨ClX.pin_at I3, I3.kIn⟩, ?_⟩) hpl
  · refine ⟨ρ, m0, μ, st, ev, ?_⟩
    unfold cmK at h
    cases e4 : fL μ m0 with
    | ok ds m4 =>
      rw [e4] at h
      intro ρ5 H5 vs l5 s5 r5
      have hv : vs.length = ks.length := by rw [← r5.len]; exact l.len _ _ _ _ e4
      exact ⟨hv, (pick_len hi (by rw [List.length_cons, hv])).trans hl, ρ5, m4, pick idx (.con (.ref C) :: ds), s5, Iss.pick (.cons (.con _) r5) idx, Po.le h l5⟩
    | err c fs m1 => rw [e4] at h; exact h
    | bad => rw [e4] at h; exact h
  · rw [hks]
    have r2 : Vals (V.ref C :: vs) (Value.ref C :: us) := .cons rfl rv
    have hu : us.length = ks.length := by rw [← rv.length]; exact hv
    exact run_cmG G (rg.mono hk) tk I3 (BindsTo.of_eq (hb _ hq [.ref C] us rfl hu)) (vals_pick r2 idx) q2⟩
/-- x(e, ..), x a local name that holds the class c -/
def makeV (b : Bool) (i c : Nat) (C : Addr) (F : FD) (fL : EL) : E1 := fun μ m => match μ[i]? with
  | some (some (.con (.ref C'))) => if C' = C then (fL μ m).bind fun ds m1 => makeB b c F ds m1 else .bad
  | _ => .bad
theorem pd_newV {i c : Nat} {b : Bool} {y : Str} (N : Ctor X.prog X.w X.K X.mg X.base T k c y ps kws F) (rg : Rg j X.A) (hk : k + 1 ≤ j) (tk : Takes X W) (hN : X.N[i]? = some x) (hv : Vis X.env.scope x) (hC : T.cls c = C) (kp : PySem.W.keepIn X.K (.ref C) = true) (ha : PA X (e :: es) (TL T W fL)) [l : LenL fL n] (hn : n + 1 = ps.length := by rfl)
    (hdb : (x == ("__debug__" : Str)) = false := by decide) (hcd : (x == ("__classdict__" : Str)) = false := by decide) (he : starEach (e :: es) X.env = (false, eval e X.env) :: starEach es X.env := by rfl) (hpl : (backTo pos (starEach es X.env)).any (·.1) = false := by rfl) :
    PE X (.Call (.Name x p) (e :: es) [] pos) (TD T W (makeV b i c C F fL)) := ⟨fun pins s σ H Q I ⟨ρ, m0, μ, st, ev, h⟩ => by
  unfold makeV at h
  split at h
  · rename_i C' e1
    split at h
    · rename_i e2
      subst e2
      obtain ⟨v, e3, rv⟩ := ev.val i _ e1
      cases rv
      refine wpAny_Call_Name_kw (thn ((pe_var (pos := p) hN hv hdb hcd).run pins s σ H (fun v H1 => v = .ref C' ∧ H1 = H) I ⟨.ref C', e3, rfl, rfl⟩) fun u s1 ⟨v, H1, I1, r1, q1⟩ => ?_)
      obtain ⟨rfl, rfl⟩ := q1
      cases r1
      refine PySem.W.callWith_K (h₀ := X.base) I.ok.mod.kin kp (thn (ha.run pos pins s1 σ H1 (fun vs H1 => ∃ ρ1 m1 ds, StOk T ρ1 m1 H1 ∧ Iss T ρ1 H1 ds vs ∧ ds.length = n ∧ PoD T ρ1 H1 (makeB b c F ds m1) Q fun c d H' => W c d σ H') I1 ?_) fun us s2 ⟨vs, H2, I2, r, ρ1, m1, ds, st1, ri, hl, q⟩ => ⟨I2.kIn, ?_⟩) he hpl
      · refine ⟨ρ, m0, μ, st, ev, ?_⟩
        cases e4 : fL μ m0 with
        | ok ds m4 =>
          rw [e4] at h
          intro ρ5 H5 vs l5 s5 r5
          exact ⟨ρ5, m4, ds, s5, r5, l.len _ _ _ _ e4, Po.le h l5⟩
        | err c fs m1 => rw [e4] at h; exact h
        | bad => rw [e4] at h; exact h
      · rw [← hC]
        exact run_new N rg hk tk I2 r st1 ri (by rw [hl]; exact hn) q
    · exact h.elim
  · exact h.elim⟩
end
end DL
end

section
set_option Elab.async false
set_option maxRecDepth 100000
set_option maxHeartbeats 4000000
set_option linter.all false
/-! D26: isinstance of instances; facts of classes, asked at once. -/
namespace DL
open PySem PySem.Spec PyProof.Rows L2

structure InsX (K : PySem.W.Frag) (C : Addr) : Prop where
  cl : Cls K C
  ca : PySem.W.findIn K (.ref C) "__class__" = some (some (.builtin "object.__class__"))
  cg : PySem.W.specialIn K (.builtin "object.__class__") "__get__" = some (some (.builtin "getset_descriptor.__get__"))
  ct : PySem.W.takesIn K (.builtin "object.__class__") = some true
  cm : PySem.W.mroIn K C (.type "object") = some true
def insXB (K : PySem.W.Frag) (C : Addr) : Bool := PySem.W.plainGet K C Str.empty && PySem.W.hasDictIn K C && PySem.W.plainOver K C && decide (PySem.W.findIn K (.ref C) "__setattr__" = some (some (.builtin "object.__setattr__"))) &&
  decide (PySem.W.findIn K (.ref C) "__class__" = some (some (.builtin "object.__class__"))) && decide (PySem.W.specialIn K (.builtin "object.__class__") "__get__" = some (some (.builtin "getset_descriptor.__get__"))) &&
  decide (PySem.W.takesIn K (.builtin "object.__class__") = some true) && decide (PySem.W.mroIn K C (.type "object") = some true)
theorem insX_by {K : PySem.W.Frag} {C : Addr} (h : insXB K C = true) : InsX K C := by
  unfold insXB at h
  simp only [Bool.and_eq_true, decide_eq_true_eq] at h
  obtain ⟨⟨⟨⟨⟨⟨⟨h1, h2⟩, h3⟩, h4⟩, h5⟩, h6⟩, h7⟩, h8⟩ := h
  exact ⟨⟨h1, h2, h3, h4⟩, h5, h6, h7, h8⟩
/-- the classes of instances: from n up to N -/
theorem ins_by {K : PySem.W.Frag} {T : Tab} {n N : Nat} (h : (List.range N).all (fun c => decide (c < n) || insXB K (T.cls c)) = true) : ∀ c, n ≤ c → c < N → InsX K (T.cls c) := fun c h1 h2 => by
  have := List.all_eq_true.mp h c (List.mem_range.mpr h2)
  rw [Bool.or_eq_true, decide_eq_true_eq] at this
  rcases this with z | z
  · omega
  · exact insX_by z
theorem fld_by {K : PySem.W.Frag} {T : Tab} {cs : List Nat} {x : Str} (h : cs.all (fun c => insXB K (T.cls c) && decide (PySem.W.findIn K (.ref (T.cls c)) x = some none)) = true) : FldOk K T cs x := fun c hc => by
  have := List.all_eq_true.mp h c hc
  rw [Bool.and_eq_true, decide_eq_true_eq] at this
  exact ⟨(insX_by this.1).cl, this.2⟩
def isiI (n N : Nat) (cs : List V) (sups : Nat → List V) : CF := fun ds m => match ds with
  | [d, .con cv] => (match insOf m d with
    | some (c, _) => if n ≤ c ∧ c < N ∧ cs.any (cvE cv) = true then .ok (.bl ((sups c).any (cvE cv))) m else .bad
    | none => isiG n cs sups [d, .con cv] m)
  | _ => .bad
theorem IsiOk.less {K : PySem.W.Frag} {T : Tab} {n N : Nat} {cs : List V} {sups : Nat → List V} (h : IsiOk K T N cs sups) (l : n ≤ N) : IsiOk K T n cs sups := ⟨fun c hc => h.own c (Nat.lt_of_lt_of_le hc l), h.dat⟩
section
variable {X : Cx} {T : Tab} {W : WX} {pos p : Pos}
theorem pd_isiI {a b : Expr} {n N : Nat} {cs : List V} {sups : Nat → List V} {f : EL} (cx : ∀ c, c < n → ClsX X.K (T.cls c)) (ix : ∀ c, n ≤ c → c < N → InsX X.K (T.cls c)) (ok : IsiOk X.K T N cs sups) (hgl : Gl X "isinstance") (hm : X.mg "isinstance" = none) (ha : PA X [a, b] (TL T W f)) (hnN : n ≤ N := by decide)
    (he : starEach [a, b] X.env = (false, eval a X.env) :: starEach [b] X.env := by rfl) (hpl : (backTo pos (starEach [b] X.env)).any (·.1) = false := by rfl) :
    PE X (.Call (.Name "isinstance" p) [a, b] [] pos) (TD T W (callE (isiI n N cs sups) f)) := ⟨fun pins s σ H Q I h => by
  obtain ⟨ρ, m, μ, st, ev, h⟩ := h
  refine wpAny_Call_Name_kw (ld_blt I hgl hm Boot.«isinstance» ?_ (by decide) (by decide))
  refine PyProof.Rows.callWith_builtin1 (thn (ha.run pos pins s σ H (fun vs H1 => ∃ ρ1 m1 ds, StOk T ρ1 m1 H1 ∧ Iss T ρ1 H1 ds vs ∧ PoD T ρ1 H1 (isiI n N cs sups ds m1) Q fun c d H' => W c d σ H') I ?_) fun us s1 ⟨vs, H1, I1, r, ρ1, m1, ds, st1, rs, q⟩ => ?_) he hpl
  · obtain ⟨ρ0, m0, μ0, s0, e0, h0⟩ := TL.bind (g := isiI n N cs sups) st ev h
    exact ⟨ρ0, m0, μ0, s0, e0, h0.mono (fun vs H1 ⟨ρ1, m1, ds, l, s, ev1, r1, h1⟩ => ⟨ρ1, m1, ds, s, r1, h1⟩) fun _ _ _ z => z⟩
  · unfold isiI at q
    split at q
    · rename_i d cv
      split at q
      · rename_i c fs e1
        split at q
        · rename_i hc
          obtain ⟨h1, h2, h3⟩ := hc
          obtain ⟨cv', hm', e2⟩ := List.any_eq_true.mp h3
          have e3 := cvE_eq e2
          subst e3
          cases rs with
          | @cons _ v _ vs r1 r2 => cases r2 with
            | @cons _ v2 _ vs r2 r3 =>
              cases r3; cases r2
              obtain ⟨aa, dx, xs, rfl, ha2, _⟩ := insOf_is st1 r1 e1
              have ins := ix c h1 h2
              obtain ⟨u, k, e4⟩ := ok.own c h2 cv hm'
              exact call_isi pins s1 σ H1 _ us Q I1 r ⟨_, _, _, _, _, rfl, k, .base (.ins ha2 ins.cl ins.ca ins.cg ins.ct ins.cm), e4, q ρ1 H1 _ (.refl _ _) st1 (.bl _)⟩
        · exact q.elim
      · have ok' := ok.less hnN
        unfold isiG at q
        simp only at q
        split at q
        · rename_i hc
          obtain ⟨cv', hm', e1⟩ := List.any_eq_true.mp hc
          have e2 := cvE_eq e1
          subst e2
          cases rs with
          | @cons _ v _ vs r1 r2 => cases r2 with
            | @cons _ v2 _ vs r2 r3 =>
              cases r3; cases r2
              split at q
              · rename_i c fs _
                split at q
                · rename_i hc
                  obtain ⟨a, xs, rfl, rx, ox, od, J, _⟩ := exc_inst I1 r1
                  obtain ⟨u1, u2, rfl, q1, q2⟩ := Vals.two r
                  obtain rfl : u1 = Value.ref a := q1
                  obtain ⟨u, k, e⟩ := ok'.own c hc cv hm'
                  have e4 := k.eq q2
                  subst e4
                  have C := cx c hc
                  exact PySem.W.kia_one (PySem.W.kitx_exc (ox := ox) (od := od) C.cl C.xf.ga C.xf.gg C.xf.exC C.ca C.cg C.ct C.cm) I1.kIn J e (fun z => nomatch z) fun tk => ⟨.bl _, H1, I1.tok tk, rfl, q ρ1 H1 _ (.refl _ _) st1 (.bl _)⟩
                · exact q.elim
              · split at q
                · rename_i a e
                  split at q
                  · rename_i ht
                    obtain ⟨u, k, e3⟩ := ok'.dat a (List.contains_iff_mem.mp ht) cv hm'
                    exact call_isi pins s1 σ H1 _ us Q I1 r ⟨_, _, _, _, _, rfl, k, tyOf_is st1 r1 e, e3, q ρ1 H1 _ (.refl _ _) st1 (.bl _)⟩
                  · exact q.elim
                · exact q.elim
        · exact q.elim
    · exact q.elim⟩
end
end DL
end

section
set_option Elab.async false
set_option maxRecDepth 100000
set_option maxHeartbeats 4000000
set_option linter.all false
/-! D27: facts by the kernel; instances called with keywords. -/
namespace DL
open PySem PySem.Spec PyProof.Rows L2
def recB (K : PySem.W.Frag) (p : Addr) (k : String) (g : Addr) : Bool := match PySem.W.recIn K p k with
  | some (v :: _) => decide (v = .ref g)
  | _ => false
theorem rec_by {K : PySem.W.Frag} {p : Addr} {k : String} {g : Addr} (h : recB K p k g = true) : ∃ rest, PySem.W.recIn K p k = some (.ref g :: rest) := by
  unfold recB at h
  split at h
  · rename_i v rest e
    rw [of_decide_eq_true h] at e
    exact ⟨rest, e⟩
  · cases h
def oksB (cs : List Nat) (ts : List Value) : Nat → Value → Bool := fun c t => cs.contains c && ts.contains t
theorem fst_by {K : PySem.W.Frag} {T : Tab} {cs : List Nat} {ts : List Value} (h : cs.all (fun c => ts.all fun t => PySem.W.notFirst K (T.cls c) t) = true) : ∀ c t, oksB cs ts c t = true → PySem.W.notFirst K (T.cls c) t = true := fun c t e => by
  unfold oksB at e
  rw [Bool.and_eq_true] at e
  exact List.all_eq_true.mp (List.all_eq_true.mp h c (List.contains_iff_mem.mp e.1)) t (List.contains_iff_mem.mp e.2)
theorem callO_ofK {M : Model} {A : Around} {E : Value → Shared → Prop} {s : Shared} {a : Addr} {pos : Pos} {env : Env} {Q : Value → Shared → Prop} {kws : List Keyword} (hall : (backToKw pos (keywordEach kws env)).all (·.1.isSome) = true)
    (h : wpAny M A (evalAll ((backToKw pos (keywordEach kws env)).map (·.2))) (fun ks s₁ => (∃ C ox od, PySem.W.InstAt s₁.heap a ox C od ∧ ox.data = .plain) ∧ wpAny M A (call (.ref a) ([] ++ []) (((backToKw pos (keywordEach kws env)).filterMap (·.1)).zip ks)) Q E s₁) E s)
    (hplain : ((backTo pos (starEach [] env)).any (·.1) || (backToKw pos (keywordEach kws env)).any (·.1.isNone)) = false) : wpAny M A (callWith pos (.ref a) [] (backTo pos (starEach [] env)) (backToKw pos (keywordEach kws env))) Q E s := by
  unfold callWith
  refine wpAny_bind (wpAny_holding (wpAny_mono (PyProof.Rows.evalArgs_kw2_nil (Q := fun z s₁ => (∃ C ox od, PySem.W.InstAt s₁.heap a ox C od ∧ ox.data = .plain) ∧ wpAny M A (call (.ref a) ([] ++ z.pos) z.kw) Q E s₁) hall h) (fun z s₁ h₁ => wpAny_bind (wpAny_standAt ?_)) fun _ _ y => y))
  obtain ⟨⟨C, ox, od, J, hd⟩, h₁⟩ := h₁
  have L := PySem.W.kco_keeper (M := M) J hd
  simp only [hplain]
  refine wpAny_bind (L.here ?_)
  have tail : ∀ {t : Sem Value}, wpAny M A t Q E s₁ → wpAny M A (t >>= fun r => holding [r] point >>= fun _ => pure r) Q E s₁ :=
    fun ht => wpAny_bind (wpAny_mono ht (fun r s₂ hr => wpAny_bind (wpAny_holding (wpAny_point (wpAny_pure hr)))) fun _ _ y => y)
  exact tail (wpAny_operateT h₁)
section
variable {X : Cx} {T : Tab} {W : WX} {pos apos p : Pos} {k j n np c : Nat} {x m : Str} {ps ks : List Str} {kws : List (Nat × List Str × List Nat)} {fe e : Expr} {fo : E1} {fL fP : EL} {disp : Nat → Option FD} {idx : List Nat} {kw : List Keyword}
/-- f(k = v, ..), f an instance -/
def callOK (disp : Nat → Option FD) (idx : List Nat) (fo : E1) (fL : EL) : E1 := fun μ m => (fo μ m).bind fun d m1 => match insOf m1 d with
  | some _ => (fL μ m1).bind fun ds m2 => (match insOf m2 d with | some (c, _) => (match disp c with | some F => F (pick idx (d :: ds)) m2 | none => .bad) | none => .bad)
  | none => .bad
theorem pd_callOK (M : CallOk X.prog X.w X.K X.mg X.base T k ps kws disp) (rg : Rg j X.A) (hk : k ≤ j) (tk : Takes X W) (hq : (1, ks, idx) ∈ kws) (hf : PE X fe (TD T W fo)) (ha : PK X kw (TL T W fL)) [l : LenL fL ks.length]
    (hi : idx.all (fun i => decide (i < ks.length + 1)) = true := by rfl) (hl : idx.length = ps.length := by rfl)
    (hall : (backToKw pos (keywordEach kw X.env)).all (·.1.isSome) = true := by rfl) (hks : (backToKw pos (keywordEach kw X.env)).filterMap (·.1) = ks := by rfl)
    (ht : eval (.Call fe [] kw pos) X.env = (do callWith pos (← eval fe X.env) [] (backTo pos (starEach [] X.env)) (backToKw pos (keywordEach kw X.env))) := by rfl)
    (hpl : ((backTo pos (starEach [] X.env)).any (·.1) || (backToKw pos (keywordEach kw X.env)).any (·.1.isNone)) = false := by rfl) : PE X (.Call fe [] kw pos) (TD T W (callOK disp idx fo fL)) := ⟨fun pins s σ H Q I ⟨ρ, m0, μ, st, ev, h⟩ => by
  obtain ⟨ρ0, m2, μ0, s0, e0, h0⟩ := TD.bind (g := fun d m1 => match insOf m1 d with
      | some _ => (fL μ m1).bind fun ds m2 => (match insOf m2 d with | some (c, _) => (match disp c with | some F => F (pick idx (d :: ds)) m2 | none => .bad) | none => .bad)
      | none => .bad) st ev h
  rw [ht]
  refine wpAny_bind (thn (hf.run pins s σ H _ I ⟨ρ0, m2, μ0, s0, e0, h0⟩) fun u s1 ⟨xx, H1, I1, rx, ρ1, m1, d, l1, st1, ev1, r, h1⟩ => ?_)
  split at h1
  · rename_i cf e1
    obtain ⟨c0, fs0⟩ := cf
    obtain ⟨a, dx, xs, rfl, ea, rr⟩ := insOf_is st1 r e1
    obtain rfl : u = Value.ref a := rx
    refine callO_ofK hall (thn (ha.run pos pins s1 σ H1 (fun vs H2 => ∃ ρ2 m2 ds c fs F, StOk T ρ2 m2 H2 ∧ Iss T ρ2 H2 (d :: ds) (.ref a :: vs) ∧ ds.length = ks.length ∧ insOf m2 d = some (c, fs) ∧ disp c = some F ∧ PoD T ρ2 H2 (F (pick idx (d :: ds)) m2) Q fun c d H' => W c d σ H') I1 ?_) fun us s2 ⟨vs, H2, I2, rv, ρ2, m2, ds, c, fs, F, st2, rd, hlen, e2, e3, q⟩ => ?_) hpl
    · refine ⟨ρ1, m1, μ, st1, ev1, ?_⟩
      cases e4 : fL μ m1 with
      | ok ds m4 =>
        rw [e4] at h1
        intro ρ5 H5 vs l5 s5 r5
        simp only [R.bind_ok] at h1
        split at h1
        · rename_i c fs e6
          split at h1
          · rename_i F e7
            exact ⟨ρ5, m4, ds, c, fs, F, s5, .cons (r.le l5) r5, l.len _ _ _ _ e4, e6, e7, Po.le h1 l5⟩
          · exact h1.elim
        · exact h1.elim
      | err c fs m1 => rw [e4] at h1; exact h1
      | bad => rw [e4] at h1; exact h1
    · rw [hks]
      obtain ⟨g, cc, G⟩ := M.ok c F e3
      obtain ⟨fd, G, _, hb⟩ := G.ex
      have rdd := rd
      cases rd with
      | cons r1 r2 =>
        obtain ⟨a', dx', xs', ez, ea', rr'⟩ := insOf_is st2 r1 e2
        cases ez
        have hi2 : StX.InsC X H2 a (T.cls c) := .inr ⟨_, _, ea'⟩
        obtain ⟨ox, od, J, hd⟩ := StX.insC_at I2 hi2
        refine ⟨⟨_, ox, od, J, hd⟩, wpAny_call (PySem.W.kco_code I2.kIn J hd cc.at_ cc.fn cc.fi ?_)⟩
        have rz : Vals (V.ref a :: vs) (Value.ref a :: us) := .cons rfl rv
        have hu : us.length = ks.length := by rw [← rv.length, ← r2.len]; exact hlen
        have hv : (V.ref a :: vs).length = ks.length + 1 := by rw [List.length_cons, ← r2.len, hlen]
        exact run_gC (us := [.ref a]) (kw := ks.zip us) G (rg.mono hk) tk (BindsTo.of_eq (hb _ hq [.ref a] us rfl hu)) I2 (vals_pick rz idx) ⟨(pick_len hi hv).trans hl, ρ2, m2, pick idx (d :: ds), st2, rdd.pick idx, q⟩
  · exact h1.elim⟩
end
end DL
end

section
open PySem PySem.Spec PyProof.Rows L2
set_option Elab.async false
set_option linter.all false
set_option maxRecDepth 100000
/-! lists of the store: what a sum of lists makes -/
namespace DL
def addNF : OpF := fun x y m => match elems m x, elems m y with
  | some a, some b => if a.length + b.length ≤ cap then .ok (.ref m.length) (m ++ [.lst (a ++ b)]) else .bad
  | _, _ => .bad
theorem od_addN {K : PySem.W.Frag} : OpD (rAddF K) addNF := by
  intro T ρ m H x y v w Q E st rx ry h
  unfold addNF at h
  split at h
  · rename_i a b ea eb
    obtain ⟨a1, xs, rfl, h1, r1⟩ := elems_is st rx ea
    obtain ⟨a2, ys, rfl, h2, r2⟩ := elems_is st ry eb
    split at h
    · rename_i hl
      refine .inr ⟨a1, a2, xs, ys, rfl, rfl, h1, h2, by rw [← r1.len, ← r2.len]; exact cap_line hl, fun p hp => h (ρ ++ [p]) (upd H p (.lst (xs ++ ys))) (.ref p) (.place hp) (st.place hp ⟨_, upd_same, (r1.app r2).le (.place hp)⟩) (.ref ?_)⟩
      rw [← st.len]
      simp
    · exact h.elim
  · exact h.elim
end DL
end

section
open PySem PySem.Spec PyProof.Rows L2
set_option Elab.async false
set_option linter.all false
set_option maxRecDepth 100000
/-! min and max of a list of alike data -/
namespace DL
/-- min (max) of a list of data: the item -/
def rBestD (K : PySem.W.Frag) (f : PyData → List PyData → PyData) : List V → Hp → VK → Prop := fun xs H Q => ∃ (a : Addr) (vs : List V) (p : PyData) (ps : List PyData), xs = [.ref a] ∧ SqL K H a vs ∧ DpAll K H vs (p :: ps) ∧ PySem.W.AlikeAll (p :: ps) ∧ PyData.depthAll (p :: ps) ≤ 40 ∧
  ∀ (i : Nat) (v : V), vs[i]? = some v → (p :: ps)[i]? = some (f p ps) → Q v H
theorem vals_at {i : Nat} {u : Value} : ∀ {vs : List V} {us : List Value} (i : Nat), Vals vs us → us[i]? = some u → ∃ v, vs[i]? = some v ∧ RelV v u
  | _, _, i, .nil, h => by simp at h
  | _, _, 0, .cons r _, h => by
    simp at h
    subst h
    exact ⟨_, rfl, r⟩
  | _, _, i + 1, .cons _ rs, h => by simpa using vals_at (i := i) i rs (by simpa using h)
section
variable {X : Cx}
theorem cr_minD (hc : X.calm = true) (hu : X.A.units + 50 < cLine) : CallR X (.builtin "min") (rBestD X.K PySem.W.minD) := by
  intro pins s σ H vs us Q I r h
  obtain ⟨a, ws, p, ps, rfl, hs, hd, ha, hdep, q⟩ := h
  obtain ⟨its, rv, hl, _⟩ := I.list hs
  rw [Vals.ref1 r]
  obtain ⟨as, rd⟩ := Dp.readsAll I _ _ _ hd rv
  refine PySem.W.min_list_data (I.ok.hd hc) hl.isList (by simpa using rd) ha (by omega) fun i v h' tk bs hi hb hk => ?_
  have hi' : its[i]? = some v := by simpa using hi
  obtain ⟨w, hw, rw'⟩ := vals_at (i := i) i rv hi'
  refine ⟨w, H, I.kept hk, rw', q i w hw ?_⟩
  obtain ⟨bs2, r2, il, _, _⟩ := PySem.W.readsAll_at rd i v hi'
  have r3 := PySem.W.reads_keeps hk r2
  have e := (Reads.unique hb _ _ r3).1
  rw [List.getElem?_eq_getElem il, e]
  simp [List.getD_eq_getElem?_getD, List.getElem?_eq_getElem il]
theorem cr_maxD (hc : X.calm = true) (hu : X.A.units + 50 < cLine) : CallR X (.builtin "max") (rBestD X.K PySem.W.maxD) := by
  intro pins s σ H vs us Q I r h
  obtain ⟨a, ws, p, ps, rfl, hs, hd, ha, hdep, q⟩ := h
  obtain ⟨its, rv, hl, _⟩ := I.list hs
  rw [Vals.ref1 r]
  obtain ⟨as, rd⟩ := Dp.readsAll I _ _ _ hd rv
  refine PySem.W.max_list_data (I.ok.hd hc) hl.isList (by simpa using rd) ha (by omega) fun i v h' tk bs hi hb hk => ?_
  have hi' : its[i]? = some v := by simpa using hi
  obtain ⟨w, hw, rw'⟩ := vals_at (i := i) i rv hi'
  refine ⟨w, H, I.kept hk, rw', q i w hw ?_⟩
  obtain ⟨bs2, r2, il, _, _⟩ := PySem.W.readsAll_at rd i v hi'
  have r3 := PySem.W.reads_keeps hk r2
  have e := (Reads.unique hb _ _ r3).1
  rw [List.getElem?_eq_getElem il, e]
  simp [List.getD_eq_getElem?_getD, List.getElem?_eq_getElem il]
end
/-! pairs of whole numbers -/
def pltI (p q : Int × Int) : Bool := decide (p.1 < q.1 ∨ (p.1 = q.1 ∧ p.2 < q.2))
def dP (p : Int × Int) : PyData := .tuple [.int p.1, .int p.2]
def tP (p : Int × Int) : D := .tup [.int p.1, .int p.2]
theorem dlt_pair (p q : Int × Int) : PySem.W.dataLt (dP p) (dP q) = pltI p q := by
  obtain ⟨a, b⟩ := p; obtain ⟨c, d⟩ := q
  have al : ∀ x y : Int, PySem.W.alike (.int x) (.int y) = true := fun x y => by simp [PySem.W.alike]
  have ev : ∀ x y : Int, PyData.eqv (.int x) (.int y) = decide (x = y) := fun x y => by simp [PyData.eqv]; rfl
  unfold dP pltI
  rw [PySem.W.dataLt_tuple]
  by_cases h1 : a = c
  · rw [PySem.W.dataLt_all_yes (al a c) (by rw [ev]; simp [h1])]
    by_cases h2 : b = d
    · rw [PySem.W.dataLt_all_yes (al b d) (by rw [ev]; simp [h2]), PyProof.Rows.lex_irrefl]
      simp [h1, h2]
    · rw [PySem.W.dataLt_all_no (al b d) (by rw [ev]; simp [h2]), PySem.W.dataLt_int]
      simp [h1]
  · rw [PySem.W.dataLt_all_no (al a c) (by rw [ev]; simp [h1]), PySem.W.dataLt_int]
    simp [h1]
def minP (p : Int × Int) (ps : List (Int × Int)) : Int × Int := ps.foldl (fun a y => if pltI y a = true then y else a) p
def maxP (p : Int × Int) (ps : List (Int × Int)) : Int × Int := ps.foldl (fun a y => if pltI a y = true then y else a) p
theorem minD_pair : ∀ (ps : List (Int × Int)) (p : Int × Int), PySem.W.minD (dP p) (ps.map dP) = dP (minP p ps)
  | [], p => rfl
  | q :: ps, p => by
    have := minD_pair ps (if pltI q p = true then q else p)
    unfold PySem.W.minD minP at this ⊢
    rw [List.map_cons, List.foldl_cons, List.foldl_cons, dlt_pair, ← this]
    split <;> rfl
theorem maxD_pair : ∀ (ps : List (Int × Int)) (p : Int × Int), PySem.W.maxD (dP p) (ps.map dP) = dP (maxP p ps)
  | [], p => rfl
  | q :: ps, p => by
    have := maxD_pair ps (if pltI p q = true then q else p)
    unfold PySem.W.maxD maxP at this ⊢
    rw [List.map_cons, List.foldl_cons, List.foldl_cons, dlt_pair, ← this]
    split <;> rfl
def prOf : D → Option (Int × Int)
  | .tup [.int a, .int b] => some (a, b)
  | _ => none
def prsOf : List D → Option (List (Int × Int))
  | [] => some []
  | d :: ds => match prOf d, prsOf ds with
    | some p, some ps => some (p :: ps)
    | _, _ => none
theorem prOf_some {d : D} {p : Int × Int} (h : prOf d = some p) : d = tP p := by
  unfold prOf at h
  split at h
  · cases h; rfl
  · cases h
theorem prsOf_some : ∀ {ds : List D} {ps : List (Int × Int)}, prsOf ds = some ps → ds = ps.map tP
  | [], ps, h => by simp [prsOf] at h; subst h; rfl
  | d :: ds, ps, h => by
    unfold prsOf at h
    split at h
    · rename_i p qs e1 e2
      cases h
      rw [prOf_some e1, prsOf_some e2]; rfl
    · cases h
theorem prsOf_map (ps : List (Int × Int)) : prsOf (ps.map tP) = some ps := by
  induction ps with
  | nil => rfl
  | cons p ps ih => simp only [List.map_cons, prsOf, ih]; rfl
theorem pys_pairs (ps : List (Int × Int)) : pys (ps.map tP) = some (ps.map dP) := by
  induction ps with
  | nil => simp [pys]
  | cons p ps ih => simp only [List.map_cons, pys, ih, tP, py, dP]; rfl
theorem alike_pairs (ps : List (Int × Int)) : PySem.W.AlikeAll (ps.map dP) := by
  refine ⟨fun x hx y hy => ?_, fun x hx => ?_⟩
  · obtain ⟨p, _, rfl⟩ := List.mem_map.mp hx
    obtain ⟨q, _, rfl⟩ := List.mem_map.mp hy
    simp [dP, PySem.W.alike, PySem.W.alikeAll]
  · obtain ⟨p, _, rfl⟩ := List.mem_map.mp hx
    simp [dP]
theorem depth_pairs (ps : List (Int × Int)) : PyData.depthAll (ps.map dP) ≤ 40 := by
  induction ps with
  | nil => simp [PyData.depthAll]
  | cons p ps ih =>
    simp only [List.map_cons, PyData.depthAll, dP, PyData.depth] at ih ⊢
    omega
/-- min of a list of pairs -/
def bestF (f : Int × Int → List (Int × Int) → Int × Int) : CF := fun ds m => match ds with
  | [d] => match elems m d with
    | some xs => match prsOf xs with
      | some (p :: ps) => .ok (tP (f p ps)) m
      | _ => .bad
    | none => .bad
  | _ => .bad
theorem dP_inj {p q : Int × Int} (h : dP p = dP q) : p = q := by
  obtain ⟨a, b⟩ := p; obtain ⟨c, d⟩ := q
  simp [dP] at h
  rw [h.1, h.2]
theorem cd_best {K : PySem.W.Frag} {g : PyData → List PyData → PyData} {f : Int × Int → List (Int × Int) → Int × Int} (hg : ∀ ps p, g (dP p) (ps.map dP) = dP (f p ps)) : CallD (rBestD K g) (bestF f) := by
  intro T ρ m H ds vs Q E st r h
  unfold bestF at h
  split at h
  · cases r with
    | cons r1 r2 =>
      cases r2
      split at h
      · rename_i xs e
        split at h
        · rename_i p ps e2
          obtain ⟨a, ys, rfl, hr, rr⟩ := elems_is st r1 e
          have hx := prsOf_some e2
          subst hx
          refine ⟨a, ys, dP p, ps.map dP, rfl, .inl hr, Iss.dp rr (pys_pairs (p :: ps)), alike_pairs (p :: ps), depth_pairs (p :: ps), fun i v hi hp => ?_⟩
          rw [hg] at hp
          have hp2 : (p :: ps)[i]? = some (f p ps) := by
            have : ((p :: ps).map dP)[i]? = some (dP (f p ps)) := hp
            rw [List.getElem?_map] at this
            cases q : (p :: ps)[i]? with
            | none => rw [q] at this; simp at this
            | some z => rw [q] at this; simp at this; rw [dP_inj this]
          have hd : ((p :: ps).map tP)[i]? = some (tP (f p ps)) := by rw [List.getElem?_map, hp2]; rfl
          obtain ⟨v', hv, hI⟩ := rr.get hd
          rw [hi] at hv
          cases hv
          exact h ρ H _ (.refl _ _) st hI
        · exact h.elim
      · exact h.elim
  · exact h.elim
section
variable {X : Cx} {T : Tab} {W : WX} {pos p : Pos}
theorem units50 {k : Nat} (rg : Rg k X.A) : X.A.units + 50 < cLine := by
  have h := rg.room.un
  have e : cLine = 9900 := rfl
  rw [e] at h ⊢
  omega
theorem pd_minP {k : Nat} (rg : Rg k X.A) {e : Expr} {f : EL} (hc : X.calm = true) (hg : Gl X "min") (hm : X.mg "min" = none) (ha : PA X [e] (TL T W f)) (he : starEach [e] X.env = [(false, eval e X.env)] := by rfl) : PE X (.Call (.Name "min" p) [e] [] pos) (TD T W (callE (bestF minP) f)) :=
  pd_callB (cd_best minD_pair) (cr_minD hc (units50 rg)) hg hm Boot.«min» ha (by decide) (by decide) he rfl
theorem pd_maxP {k : Nat} (rg : Rg k X.A) {e : Expr} {f : EL} (hc : X.calm = true) (hg : Gl X "max") (hm : X.mg "max" = none) (ha : PA X [e] (TL T W f)) (he : starEach [e] X.env = [(false, eval e X.env)] := by rfl) : PE X (.Call (.Name "max" p) [e] [] pos) (TD T W (callE (bestF maxP) f)) :=
  pd_callB (cd_best maxD_pair) (cr_maxD hc (units50 rg)) hg hm Boot.«max» ha (by decide) (by decide) he rfl
end
end DL
end

section
open PySem PySem.Spec PyProof.Rows L2
set_option Elab.async false
set_option linter.all false
set_option maxRecDepth 100000
/-! list(range(n)) -/
namespace DL
def lrgF : D → S → R D := fun d m => match d with
  | .int n => if 0 ≤ n ∧ n ≤ 10000 then .ok (.lst (rngD n)) m else .bad
  | _ => .bad
def lrgE (f : E1) : E1 := fun μ m => (f μ m).bind lrgF
theorem rg_iss {T : Tab} {ρ : List Addr} {H : Hp} : ∀ (l : List Nat), Iss T ρ H (l.map fun i : Nat => D.int (i : Int)) (l.map fun i : Nat => V.int (i : Int))
  | [] => .nil
  | _ :: l => .cons (.int _) (rg_iss l)
section
variable {X : Cx} {T : Tab} {W : WX} {pos p p2 pos2 : Pos}
theorem pd_listR {a : Expr} {f : E1} (hc : X.calm = true) (hg : Gl X "list") (hm : X.mg "list" = none) (hg2 : Gl X "range") (hm2 : X.mg "range" = none) (ha : PE X a (TD T W f)) (na : starEach [a] X.env = (false, eval a X.env) :: starEach [] X.env := by rfl)
    (na2 : starEach [Expr.Call (.Name "range" p2) [a] [] pos2] X.env = (false, eval (.Call (.Name "range" p2) [a] [] pos2) X.env) :: starEach [] X.env := by rfl) : PE X (.Call (.Name "list" p) [.Call (.Name "range" p2) [a] [] pos2] [] pos) (TD T W (lrgE f)) :=
  pe_imp (pe_listRg hc hg hm (prg_1 hg2 hm2 ha na) na2) fun σ H Q ⟨ρ, m, μ, st, ev, h⟩ => by
    obtain ⟨ρ0, m0, μ0, s0, e0, h0⟩ := TD.bind (g := lrgF) st ev h
    refine ⟨ρ0, m0, μ0, s0, e0, h0.mono (fun v H1 ⟨ρ1, m1, d, l, s1, ev1, r, h1⟩ => ?_) fun _ _ _ z => z⟩
    unfold lrgF at h1
    split at h1
    · rename_i n
      cases r
      split at h1
      · rename_i hn
        obtain ⟨k, rfl⟩ := Int.eq_ofNat_of_zero_le hn.1
        refine ⟨_, rfl, RgOk.of_le (by omega) (by omega) (by omega) (by omega), fun q hq => h1 ρ1 _ (.ref q) (.new hq) (s1.new hq) (.lst upd_same (s1.free hq) ?_)⟩
        have e : rgV 0 (k : Int) = (List.range k).map fun i : Nat => V.int (i : Int) := by
          unfold rgV
          simp
        have e2 : rngD (k : Int) = (List.range k).map fun i : Nat => D.int (i : Int) := by
          unfold rngD
          simp
        rw [e, e2]
        exact rg_iss _
      · exact h1.elim
    · exact h1.elim
end
end DL
end

section
open PySem PySem.Spec PyProof.Rows L2
set_option Elab.async false
set_option linter.all false
set_option maxRecDepth 100000
/-! <, >, <=, >= of pairs; a < b < c; x in l, x not in l -/
namespace DL
def rOrdD (K : PySem.W.Frag) (g : PyData → PyData → Bool) : L2.R2 := fun x y H Q => ∃ d e, Dp K H x d ∧ Dp K H y e ∧ PySem.W.alike d e = true ∧ d ≠ .none ∧ d.depth ≤ 40 ∧ Q (.bl (g d e)) H
section
variable {X : Cx}
theorem op_gtD (hu : X.A.units + 50 < cLine) : OpR X (compareOp .Gt) (rOrdD X.K fun d e => PySem.W.dataLt e d) := by
  intro pins s σ H x y v u Q I rx ry h
  obtain ⟨d, e, hd, he, al, hn, dep, q⟩ := h
  obtain ⟨as, r1⟩ := Dp.reads I d x v hd rx
  obtain ⟨bs, r2⟩ := Dp.reads I e y u he ry
  have := Nat.min_le_left d.depth e.depth
  exact PySem.W.rcGt_alike d e X.A s v u as bs r1 r2 al hn (by omega) X.prog X.w X.xe (EP X pins σ Q) ⟨.bl _, H, I, rfl, q⟩
theorem op_leD (hu : X.A.units + 50 < cLine) : OpR X (compareOp .LtE) (rOrdD X.K fun d e => !PySem.W.dataLt e d) := by
  intro pins s σ H x y v u Q I rx ry h
  obtain ⟨d, e, hd, he, al, hn, dep, q⟩ := h
  obtain ⟨as, r1⟩ := Dp.reads I d x v hd rx
  obtain ⟨bs, r2⟩ := Dp.reads I e y u he ry
  have := Nat.min_le_left d.depth e.depth
  exact PySem.W.rcLe_alike d e X.A s v u as bs r1 r2 al hn (by omega) X.prog X.w X.xe (EP X pins σ Q) ⟨.bl _, H, I, rfl, q⟩
theorem op_geD (hu : X.A.units + 50 < cLine) : OpR X (compareOp .GtE) (rOrdD X.K fun d e => !PySem.W.dataLt d e) := by
  intro pins s σ H x y v u Q I rx ry h
  obtain ⟨d, e, hd, he, al, hn, dep, q⟩ := h
  obtain ⟨as, r1⟩ := Dp.reads I d x v hd rx
  obtain ⟨bs, r2⟩ := Dp.reads I e y u he ry
  have := Nat.min_le_left d.depth e.depth
  exact PySem.W.rcGe_alike d e X.A s v u as bs r1 r2 al hn (by omega) X.prog X.w X.xe (EP X pins σ Q) ⟨.bl _, H, I, rfl, q⟩
theorem op_ltD (hu : X.A.units + 50 < cLine) : OpR X (compareOp .Lt) (rOrdD X.K fun d e => PySem.W.dataLt d e) := by
  intro pins s σ H x y v u Q I rx ry h
  obtain ⟨d, e, hd, he, al, hn, dep, q⟩ := h
  obtain ⟨as, r1⟩ := Dp.reads I d x v hd rx
  obtain ⟨bs, r2⟩ := Dp.reads I e y u he ry
  have := Nat.min_le_left d.depth e.depth
  exact PySem.W.rcLt_alike d e X.A s v u as bs r1 r2 al hn (by omega) X.prog X.w X.xe (EP X pins σ Q) ⟨.bl _, H, I, rfl, q⟩
end
def ordF (g : Int × Int → Int × Int → Bool) (i : OpF) : OpF := fun x y m => match prOf x, prOf y with
  | some p, some q => .ok (.bl (g p q)) m
  | _, _ => i x y m
def gt2F : OpF := ordF (fun p q => pltI q p) gtF
def le2F : OpF := ordF (fun p q => !pltI q p) leF
def ge2F : OpF := ordF (fun p q => !pltI p q) geF
theorem dp_pair {K : PySem.W.Frag} {T : Tab} {ρ : List Addr} {H : Hp} {p : Int × Int} {v : V} (r : Is T ρ H (tP p) v) : Dp K H v (dP p) := Is.dp r (by simp [tP, py, pys, dP])
theorem od_ord {K : PySem.W.Frag} {r : L2.R2} {g : Int × Int → Int × Int → Bool} {G : PyData → PyData → Bool} {i : OpF} (hi : OpD r i) (hg : ∀ p q, G (dP p) (dP q) = g p q) : OpD (fun x y H Q => r x y H Q ∨ rOrdD K G x y H Q) (ordF g i) := by
  intro T ρ m H x y v w Q E st rx ry h
  unfold ordF at h
  split at h
  · rename_i p q e1 e2
    have := prOf_some e1
    subst this
    have := prOf_some e2
    subst this
    refine .inr ⟨dP p, dP q, dp_pair rx, dp_pair ry, by simp [dP, PySem.W.alike, PySem.W.alikeAll], by simp [dP], by simp [dP, PyData.depth, PyData.depthAll], ?_⟩
    rw [hg]
    exact h ρ H _ (.refl _ _) st (.bl _)
  · exact .inl (hi T ρ m H x y v w Q E st rx ry h)
/-- x in l, of data -/
def inDF (neg : Bool) : OpF := fun x y m => match pyM m x, pyM m y with
  | some d, some (.list ds) => if SeqAt.shaped d = true ∧ SeqAt.shaped (.list ds) = true then .ok (.bl (neg != ds.any fun z => PyData.eqv z d)) m else .bad
  | _, _ => .bad
theorem od_in {K : PySem.W.Frag} : OpD (rInD K) (inDF false) := by
  intro T ρ m H x y v w Q E st rx ry h
  unfold inDF at h
  split at h
  · rename_i d ds e1 e2
    split at h
    · rename_i c
      refine ⟨d, ds, Is.dpM st rx e1, Is.dpM st ry e2, c.1, c.2, ?_⟩
      have := h ρ H (.bl (false != ds.any fun z => PyData.eqv z d)) (.refl _ _) st (.bl _)
      simpa using this
    · exact h.elim
  · exact h.elim
theorem od_notIn {K : PySem.W.Frag} : OpD (rNotInD K) (inDF true) := by
  intro T ρ m H x y v w Q E st rx ry h
  unfold inDF at h
  split at h
  · rename_i d ds e1 e2
    split at h
    · rename_i c
      refine ⟨d, ds, Is.dpM st rx e1, Is.dpM st ry e2, c.1, c.2, ?_⟩
      have := h ρ H (.bl (true != ds.any fun z => PyData.eqv z d)) (.refl _ _) st (.bl _)
      simpa using this
    · exact h.elim
  · exact h.elim
theorem Po.bind {β γ : Type} {T : Tab} {rel : List Addr → Hp → β → γ → Prop} {ρ : List Addr} {H : Hp} {r : R D} {g : D → S → R β} {Q : γ → Hp → Prop} {E : L2.XK} (h : Po T rel ρ H (r.bind g) Q E) :
    PoD T ρ H r (fun v H1 => ∃ ρ1 m1 d, Le ρ H ρ1 H1 ∧ StOk T ρ1 m1 H1 ∧ Is T ρ1 H1 d v ∧ Po T rel ρ1 H1 (g d m1) Q E) E := by
  cases r with
  | ok d m1 => exact fun ρ1 H1 v l s r => ⟨ρ1, m1, d, l, s, r, h.le l⟩
  | err c fs m1 => exact h
  | bad => exact h
/-- a op b op' c -/
def chE (g g' : OpF) (f1 f2 f3 : E1) : E1 := fun μ m => (f1 μ m).bind fun x m1 => (f2 μ m1).bind fun y m2 => (g x y m2).bind fun z m3 => match z with
  | .bl true => (f3 μ m3).bind fun w m4 => g' y w m4
  | .bl false => .ok (.bl false) m3
  | _ => .bad
section
variable {X : Cx} {T : Tab} {W : WX} {pos p : Pos}
theorem pd_chain {a b c : Expr} {op op' : CmpOp} {r r' : L2.R2} {g g' : OpF} {f1 f2 f3 : E1} (hg : OpD r g) (hg' : OpD r' g') (ho : OpR X (compareOp op) r) (ho' : OpR X (compareOp op') r') (ha : PE X a (TD T W f1)) (hb : PE X b (TD T W f2)) (hc : PE X c (TD T W f3))
    (hm : lastMarks [op, op'] [b, c] = false := by with_unfolding_all rfl) : PE X (.Compare a [op, op'] [b, c] pos) (TD T W (chE g g' f1 f2 f3)) :=
  pe_imp (pe_chain ho ho' ha hb hc hm) fun σ H Q ⟨ρ, m, μ, st, ev, h⟩ => by
    obtain ⟨ρ0, m0, μ0, s0, e0, h0⟩ := TD.bind st ev h
    refine ⟨ρ0, m0, μ0, s0, e0, h0.mono (fun v H1 ⟨ρ1, m1, d, l1, st1, ev1, r1, h1⟩ => ?_) fun _ _ _ z => z⟩
    obtain ⟨ρ0, m0, μ0, s0, e0, h0⟩ := TD.bind st1 ev1 h1
    refine ⟨ρ0, m0, μ0, s0, e0, h0.mono (fun w H2 ⟨ρ2, m2, d2, l2, st2, ev2, r2, h2⟩ => ?_) fun _ _ _ z => z⟩
    refine hg T ρ2 m2 H2 d d2 v w _ _ st2 (r1.le l2) r2 ((Po.bind h2).mono (fun z H3 ⟨ρ3, m3, d3, l3, st3, r3, h3⟩ => ?_) fun _ _ _ z => z)
    split at h3
    · cases r3
      refine ⟨true, rfl, ?_⟩
      rw [if_pos rfl]
      obtain ⟨ρ0, m0, μ0, s0, e0, h0⟩ := TD.bind st3 (ev2.le l3) h3
      refine ⟨ρ0, m0, μ0, s0, e0, h0.mono (fun w' H4 ⟨ρ4, m4, d4, l4, st4, ev4, r4, h4⟩ => ?_) fun _ _ _ z => z⟩
      exact hg' T ρ4 m4 H4 d2 d4 w w' _ _ st4 ((r2.le l3).le l4) r4 h4
    · cases r3
      refine ⟨false, rfl, ?_⟩
      rw [if_neg (by decide)]
      exact h3 ρ3 H3 _ (.refl _ _) st3 (.bl _)
    · exact h3.elim
theorem pd_gt2 {a b : Expr} {f g : E1} {k : Nat} (rg : Rg k X.A) (ha : PE X a (TD T W f)) (hb : PE X b (TD T W g)) (hm : behindInMarks .Gt b = false := by rfl) : PE X (.Compare a [.Gt] [b] pos) (TD T W (bin gt2F f g)) := pd_cmp (od_ord od_gt fun p q => dlt_pair q p) (OpR.or op_gt (op_gtD (units50 rg))) hm ha hb
theorem td_gt2 {a b : Expr} {f g : E1} {k : Nat} (rg : Rg k X.A) (ha : PE X a (TD T W f)) (hb : PE X b (TD T W g)) (hm : behindInMarks .Gt b = false := by rfl) : PT X (.Compare a [.Gt] [b] pos) (TB T W (isB (bin gt2F f g))) := td_cmp (od_ord od_gt fun p q => dlt_pair q p) (OpR.or op_gt (op_gtD (units50 rg))) hm ha hb
theorem pd_le2lt2 {a b c : Expr} {f1 f2 f3 : E1} {k : Nat} (rg : Rg k X.A) (ha : PE X a (TD T W f1)) (hb : PE X b (TD T W f2)) (hc : PE X c (TD T W f3)) (hm : lastMarks [.LtE, .Lt] [b, c] = false := by with_unfolding_all rfl) : PE X (.Compare a [.LtE, .Lt] [b, c] pos) (TD T W (chE le2F lt2F f1 f2 f3)) :=
  pd_chain (od_ord od_le fun p q => by rw [dlt_pair]) od_lt2 (OpR.or op_le (op_leD (units50 rg))) (OpR.or op_lt (op_ltT (units_of rg))) ha hb hc hm
theorem units65 {k : Nat} (rg : Rg k X.A) : X.A.units + 65 < cLine := by
  have h := rg.room.un
  have e : cLine = 9900 := rfl
  rw [e] at h ⊢
  omega
theorem pd_in {a b : Expr} {f g : E1} {k : Nat} (rg : Rg k X.A) (ha : PE X a (TD T W f)) (hb : PE X b (TD T W g)) (hm : behindInMarks .In b = false := by with_unfolding_all rfl) : PE X (.Compare a [.In] [b] pos) (TD T W (bin (inDF false) f g)) := pd_cmp od_in (op_inD (units65 rg)) hm ha hb
theorem td_in {a b : Expr} {f g : E1} {k : Nat} (rg : Rg k X.A) (ha : PE X a (TD T W f)) (hb : PE X b (TD T W g)) (hm : behindInMarks .In b = false := by with_unfolding_all rfl) : PT X (.Compare a [.In] [b] pos) (TB T W (isB (bin (inDF false) f g))) := td_cmp od_in (op_inD (units65 rg)) hm ha hb
theorem pd_notIn {a b : Expr} {f g : E1} {k : Nat} (rg : Rg k X.A) (ha : PE X a (TD T W f)) (hb : PE X b (TD T W g)) (hm : behindInMarks .NotIn b = false := by with_unfolding_all rfl) : PE X (.Compare a [.NotIn] [b] pos) (TD T W (bin (inDF true) f g)) := pd_cmp od_notIn (op_notInD (units65 rg)) hm ha hb
theorem td_notIn {a b : Expr} {f g : E1} {k : Nat} (rg : Rg k X.A) (ha : PE X a (TD T W f)) (hb : PE X b (TD T W g)) (hm : behindInMarks .NotIn b = false := by with_unfolding_all rfl) : PT X (.Compare a [.NotIn] [b] pos) (TB T W (isB (bin (inDF true) f g))) := td_cmp od_notIn (op_notInD (units65 rg)) hm ha hb
end
end DL
end

section
open PySem PySem.Spec PyProof.Rows L2
set_option Elab.async false
set_option linter.all false
set_option maxRecDepth 100000
/-! a value's truth: x or y, x and y, not x, tests -/
namespace DL
def truD (m : S) (d : D) : Option Bool := match d with
  | .non => some false
  | .bl b => some b
  | .int i => some (i != 0)
  | .str y => if y.length ≤ cap then some ((y.length : Int) != 0) else none
  | .tup ds => some (!ds.isEmpty)
  | d => match elems m d with
    | some ds => some (!ds.isEmpty)
    | none => none
theorem iss_empty {T : Tab} {ρ : List Addr} {H : Hp} {ds : List D} {vs : List V} (r : Iss T ρ H ds vs) : ds.isEmpty = vs.isEmpty := by
  cases r <;> rfl
theorem tru_is {K : PySem.W.Frag} {T : Tab} {ρ : List Addr} {m : S} {H : Hp} {d : D} {v : V} {k : Bool} (st : StOk T ρ m H) (r : Is T ρ H d v) (e : truD m d = some k) : TruV K v H k := by
  have lists : ∀ ds, elems m d = some ds → k = !ds.isEmpty → TruV K v H k := fun ds ed ek => by
    obtain ⟨a, xs, rfl, hr, rr⟩ := elems_is st r ed
    refine .inl ⟨xs, .inl hr, ?_⟩
    rw [ek, iss_empty rr]
  unfold truD at e
  split at e
  · cases r; cases e; exact rfl
  · cases r; cases e; exact rfl
  · cases r; cases e; exact rfl
  · cases r
    split at e
    · rename_i hl
      cases e
      exact ⟨cap_line hl, rfl⟩
    · cases e
  · cases e
    cases r with
    | tup a b c => exact .inr (.inl ⟨_, .inl (.inl a), by rw [iss_empty c]⟩)
  · split at e
    · rename_i ds ed
      cases e
      exact lists ds ed rfl
    · cases e
def orT (f g : E1) : E1 := fun μ m => (f μ m).bind fun d m1 => match truD m1 d with
  | some true => .ok d m1
  | some false => g μ m1
  | none => .bad
def andT (f g : E1) : E1 := fun μ m => (f μ m).bind fun d m1 => match truD m1 d with
  | some true => g μ m1
  | some false => .ok d m1
  | none => .bad
def notT (f : E1) : E1 := fun μ m => (f μ m).bind fun d m1 => match truD m1 d with
  | some b => .ok (.bl (!b)) m1
  | none => .bad
/-- a value's truth as a test -/
def truB (f : E1) : EB := fun μ m => (f μ m).bind fun d m1 => match truD m1 d with
  | some b => .ok b m1
  | none => .bad
section
variable {X : Cx} {T : Tab} {W : WX} {pos p : Pos}
theorem pd_orT {a b : Expr} {rest : List Expr} {f g : E1} (ha : PE X a (TD T W f)) (hb : PE X (.BoolOp .Or (b :: rest) pos) (TD T W g)) : PE X (.BoolOp .Or (a :: b :: rest) pos) (TD T W (orT f g)) := pe_imp (pe_orT ha hb) fun σ H Q ⟨ρ, m, μ, st, ev, h⟩ => by
  refine ⟨ρ, m, μ, st, ev, ?_⟩
  unfold orT at h
  cases e : f μ m with
  | ok d m1 =>
    rw [e] at h
    intro ρ1 H1 v l s r
    simp only [R.bind_ok] at h
    split at h
    · rename_i q
      exact ⟨true, tru_is s r q, h ρ1 H1 v l s r⟩
    · rename_i q
      exact ⟨false, tru_is s r q, ⟨ρ1, m1, μ, s, ev.le l, Po.le h l⟩⟩
    · exact h.elim
  | err c fs m1 => rw [e] at h; exact h
  | bad => rw [e] at h; exact h
theorem pd_andT {a b : Expr} {rest : List Expr} {f g : E1} (ha : PE X a (TD T W f)) (hb : PE X (.BoolOp .And (b :: rest) pos) (TD T W g)) : PE X (.BoolOp .And (a :: b :: rest) pos) (TD T W (andT f g)) := pe_imp (pe_andT ha hb) fun σ H Q ⟨ρ, m, μ, st, ev, h⟩ => by
  refine ⟨ρ, m, μ, st, ev, ?_⟩
  unfold andT at h
  cases e : f μ m with
  | ok d m1 =>
    rw [e] at h
    intro ρ1 H1 v l s r
    simp only [R.bind_ok] at h
    split at h
    · rename_i q
      exact ⟨true, tru_is s r q, ⟨ρ1, m1, μ, s, ev.le l, Po.le h l⟩⟩
    · rename_i q
      exact ⟨false, tru_is s r q, h ρ1 H1 v l s r⟩
    · exact h.elim
  | err c fs m1 => rw [e] at h; exact h
  | bad => rw [e] at h; exact h
theorem pd_notT {a : Expr} {f : E1} (ha : PE X a (TD T W f)) : PE X (.UnaryOp .Not a pos) (TD T W (notT f)) := pe_imp (pe_notT ha) fun σ H Q ⟨ρ, m, μ, st, ev, h⟩ => by
  obtain ⟨ρ0, m0, μ0, s0, e0, h0⟩ := TD.bind (g := fun d m1 => match truD m1 d with | some b => R.ok (D.bl (!b)) m1 | none => R.bad) st ev h
  refine ⟨ρ0, m0, μ0, s0, e0, h0.mono (fun v H1 ⟨ρ1, m1, d, l, s, ev1, r, h1⟩ => ?_) fun _ _ _ z => z⟩
  split at h1
  · rename_i b q
    exact ⟨b, tru_is s r q, h1 ρ1 H1 _ (.refl _ _) s (.bl _)⟩
  · exact h1.elim
theorem td_tru {e : Expr} {f : E1} (he : PE X e (TD T W f)) (hw : ∀ whole, isTrue e X.env whole = (do let v ← whole; standAt e.pos; holding [v] (truthy v)) := by intro _; rfl) : PT X e (TB T W (truB f)) :=
  pt_imp (pt_truth he hw) fun σ H Q ⟨ρ, m, μ, st, ev, h⟩ => by
    obtain ⟨ρ0, m0, μ0, s0, e0, h0⟩ := TD.bind (g := fun d m1 => match truD m1 d with | some b => R.ok b m1 | none => .bad) st ev h
    refine ⟨ρ0, m0, μ0, s0, e0, h0.mono (fun v H1 ⟨ρ1, m1, d, l, s, ev1, r, h1⟩ => ?_) fun _ _ _ z => z⟩
    split at h1
    · rename_i b q
      exact ⟨b, tru_is s r q, h1 ρ1 H1 b (.refl _ _) s rfl⟩
    · exact h1.elim
end
end DL
end

section
open PySem PySem.Spec PyProof.Rows L2
set_option Elab.async false
set_option linter.all false
set_option maxRecDepth 100000
/-! dicts of the store: displays with text keys, d[k], d[k] = v -/
namespace DL
def keyD : D → Option Key
  | .str x => some (.inr x)
  | .int i => some (.inl i)
  | _ => none
theorem key_is {T : Tab} {ρ : List Addr} {H : Hp} {d : D} {v : V} {k : Key} (r : Is T ρ H d v) (e : keyD d = some k) : v = kV k := by
  unfold keyD at e
  split at e
  · cases e; cases r; rfl
  · cases e; cases r; rfl
  · cases e
def valL (kvs : List (Key × D)) (k : Key) : Option D := (kvs.find? fun kv => decide (kv.1 = k)).map (·.2)
def putL (kvs : List (Key × D)) (k : Key) (d : D) : List (Key × D) :=
  if (kvs.any fun kv => decide (kv.1 = k)) = true then kvs.map (fun kv => if kv.1 = k then (kv.1, d) else kv) else kvs ++ [(k, d)]
/-- one by one -/
inductive KIs (T : Tab) (ρ : List Addr) (H : Hp) : List (Key × D) → List (Key × V) → Prop
  | nil : KIs T ρ H [] []
  | cons {k : Key} {d : D} {v : V} {ds : List (Key × D)} {vs : List (Key × V)} : Is T ρ H d v → KIs T ρ H ds vs → KIs T ρ H ((k, d) :: ds) ((k, v) :: vs)
section
variable {T : Tab} {ρ ρ' : List Addr} {H H' : Hp}
theorem kis_zip : ∀ {ks : List Key} {ds : List D} {xs : List V}, Iss T ρ H ds xs → KIs T ρ H (ks.zip ds) (ks.zip xs)
  | [], _, _, _ => .nil
  | _ :: _, _, _, .nil => .nil
  | _ :: ks, _, _, .cons r rs => .cons r (kis_zip rs)
theorem kis_keys {kds : List (Key × D)} {kvs : List (Key × V)} (r : KIs T ρ H kds kvs) : kds.map (·.1) = kvs.map (·.1) := by
  induction r with
  | nil => rfl
  | cons a b ih => simp only [List.map_cons, ih]
theorem kis_vals {kds : List (Key × D)} {kvs : List (Key × V)} (r : KIs T ρ H kds kvs) : Iss T ρ H (kds.map (·.2)) (kvs.map (·.2)) := by
  induction r with
  | nil => exact .nil
  | cons a b ih => exact .cons a ih
theorem kis_le {kds : List (Key × D)} {kvs : List (Key × V)} (l : Le ρ H ρ' H') (r : KIs T ρ H kds kvs) : KIs T ρ' H' kds kvs := by
  induction r with
  | nil => exact .nil
  | cons a b ih => exact .cons (a.le l) ih
theorem kis_len {kds : List (Key × D)} {kvs : List (Key × V)} (r : KIs T ρ H kds kvs) : kds.length = kvs.length := by
  induction r with
  | nil => rfl
  | cons a b ih => simp only [List.length_cons, ih]
theorem kis_val {kds : List (Key × D)} {kvs : List (Key × V)} (r : KIs T ρ H kds kvs) (k : Key) {d : D} (e : valL kds k = some d) : ∃ v, valV kvs k = some v ∧ Is T ρ H d v := by
  induction r with
  | nil => simp [valL] at e
  | @cons k0 d0 v0 ds vs a b ih =>
    by_cases h : k0 = k
    · simp [valL, h] at e
      subst e
      exact ⟨v0, valV_pos h, a⟩
    · simp [valL, h] at e
      have := ih (by simpa [valL] using e)
      rw [valV_neg h]
      exact this
theorem kis_any {kds : List (Key × D)} {kvs : List (Key × V)} (r : KIs T ρ H kds kvs) (k : Key) : (kds.any fun kv => decide (kv.1 = k)) = kvs.any fun kv => decide (kv.1 = k) := by
  induction r with
  | nil => rfl
  | cons a b ih => simp only [List.any_cons, ih]
theorem kis_map {kds : List (Key × D)} {kvs : List (Key × V)} (r : KIs T ρ H kds kvs) (k : Key) {d : D} {v : V} (a : Is T ρ H d v) : KIs T ρ H (kds.map fun kv => if kv.1 = k then (kv.1, d) else kv) (kvs.map fun kv => if kv.1 = k then (kv.1, v) else kv) := by
  induction r with
  | nil => exact .nil
  | @cons k0 d0 v0 ds vs a0 b ih =>
    simp only [List.map_cons]
    by_cases h : k0 = k
    · simp only [h, if_pos]; exact .cons a ih
    · simp only [h, if_false]; exact .cons a0 ih
theorem kis_snoc {kds : List (Key × D)} {kvs : List (Key × V)} (r : KIs T ρ H kds kvs) (k : Key) {d : D} {v : V} (a : Is T ρ H d v) : KIs T ρ H (kds ++ [(k, d)]) (kvs ++ [(k, v)]) := by
  induction r with
  | nil => exact .cons a .nil
  | cons a0 b ih => exact .cons a0 ih
theorem kis_put {kds : List (Key × D)} {kvs : List (Key × V)} (r : KIs T ρ H kds kvs) (k : Key) {d : D} {v : V} (a : Is T ρ H d v) : KIs T ρ H (putL kds k d) (putK kvs k v) := by
  unfold putL putK
  rw [kis_any r k]
  split
  · exact kis_map r k a
  · exact kis_snoc r k a
end
/-- the dict's pairs -/
def dicL (m : S) : D → Option (List (Key × D))
  | .dic ks ds => some (ks.zip ds)
  | .ref n => match m[n]? with
    | some (.dic ks ds) => some (ks.zip ds)
    | _ => none
  | _ => none
theorem dic_is {T : Tab} {ρ : List Addr} {m : S} {H : Hp} (st : StOk T ρ m H) {d : D} {v : V} {kds : List (Key × D)} (r : Is T ρ H d v) (e : dicL m d = some kds) : ∃ a kvs, v = .ref a ∧ H a = some (.dK kvs) ∧ KIs T ρ H kds kvs := by
  unfold dicL at e
  split at e
  · cases e
    cases r with
    | dic a b c d => exact ⟨_, _, rfl, a, kis_zip d⟩
  · rename_i n
    split at e
    · rename_i ks ds e2
      cases e
      cases r with
      | ref hn =>
        obtain ⟨a', h4, ys, h5, _, h6⟩ := st.at e2
        rw [hn] at h4; cases h4
        exact ⟨_, _, rfl, h5, kis_zip h6⟩
    · cases e
  · cases e
/-- d[k] -/
def dgF : OpF := fun x y m => match dicL m x, keyD y with
  | some kds, some k => match valL kds k with
    | some d => .ok d m
    | none => .bad
  | _, _ => .bad
/-- d[k] = v -/
def dpF (x y d : D) (m : S) : Option S := match keyD y with
  | some k => (match x with
    | .ref n => (match m[n]? with
      | some (.dic ks ds) => if ks.length = ds.length ∧ ks.length < cap then some (m.set n (.dic ((putL (ks.zip ds) k d).map (·.1)) ((putL (ks.zip ds) k d).map (·.2)))) else none
      | _ => none)
    | _ => none)
  | none => none
def setDkS (fe fo fi : E1) : ST := liftS fe fun d => liftS fo fun o => liftS fi fun i => fun μ m => match dpF o i d m with
  | some m' => .nx μ m'
  | none => .bad
theorem zip_unzip {α β : Type} : ∀ (l : List (α × β)), (l.map (·.1)).zip (l.map (·.2)) = l
  | [] => rfl
  | a :: l => by simp only [List.map_cons, List.zip_cons_cons, zip_unzip l]
/-- the values of a display -/
def listL : List E1 → EL
  | [] => nilL
  | f :: fs => consL f (listL fs)
section
variable {X : Cx} {T : Tab} {W : WX} {pos p : Pos}
theorem pd_dget {a b : Expr} {f g : E1} {k : Nat} (rg : Rg k X.A) (ha : PE X a (TD T W f)) (hb : PE X b (TD T W g)) (hs : NoSl b := by intro _ _; rfl) : PE X (.Subscript a b pos) (TD T W (bin dgF f g)) :=
  pe_imp (pe_dget (by have := units65 rg; omega) ha hb hs) fun σ H Q ⟨ρ, m, μ, st, ev, h⟩ => by
    obtain ⟨ρ0, m0, μ0, s0, e0, h0⟩ := TD.bind st ev h
    refine ⟨ρ0, m0, μ0, s0, e0, h0.mono (fun v H1 ⟨ρ1, m1, d, l1, st1, ev1, r1, h1⟩ => ?_) fun _ _ _ z => z⟩
    obtain ⟨ρ0, m0, μ0, s0, e0, h0⟩ := TD.bind st1 ev1 h1
    refine ⟨ρ0, m0, μ0, s0, e0, h0.mono (fun w H2 ⟨ρ2, m2, d2, l2, st2, ev2, r2, h2⟩ => ?_) fun _ _ _ z => z⟩
    unfold dgF at h2
    split at h2
    · rename_i kds k e1 e2
      split at h2
      · rename_i r e3
        obtain ⟨a, kvs, rfl, hH, kr⟩ := dic_is st2 (r1.le l2) e1
        obtain ⟨v, ev, iv⟩ := kis_val kr k e3
        have := key_is r2 e2
        subst this
        exact ⟨a, v, rfl, .inl ⟨kvs, k, .inl hH, rfl, ev.symm⟩, h2 ρ2 H2 v (.refl _ _) st2 iv⟩
      · exact h2.elim
    · exact h2.elim
theorem sd_dput {o i e : Expr} {fe fo fi : E1} {k : Nat} (rg : Rg k X.A) (he : PE X e (TD T W fe)) (ho : PE X o (TD T W fo)) (hi : PE X i (TD T W fi)) (hs : swapsWith e (some (.Subscript o i p)) pos.line X.env = pure false := by rfl) : PS X (.Assign [.Subscript o i p] e pos) (TDS T W (setDkS fe fo fi)) :=
  ps_imp (ps_dput (by have := units65 rg; omega) ho hi he hs) fun Dn σ H ⟨ρ, m, μ, st, ev, h⟩ => by
    obtain ⟨ρ0, m0, μ0, s0, e0, h0⟩ := TD.lift st ev h
    refine ⟨ρ0, m0, μ0, s0, e0, h0.mono (fun v H1 ⟨ρ1, m1, d, l1, st1, ev1, r1, h1⟩ => ?_) fun _ _ _ z => z⟩
    obtain ⟨ρ0, m0, μ0, s0, e0, h0⟩ := TD.lift st1 ev1 h1
    refine ⟨ρ0, m0, μ0, s0, e0, h0.mono (fun ov H2 ⟨ρ2, m2, dov, l2, st2, ev2, r2, h2⟩ => ?_) fun _ _ _ z => z⟩
    obtain ⟨ρ0, m0, μ0, s0, e0, h0⟩ := TD.lift st2 ev2 h2
    refine ⟨ρ0, m0, μ0, s0, e0, h0.mono (fun iv H3 ⟨ρ3, m3, di, l3, st3, ev3, r3, h3⟩ => ?_) fun _ _ _ z => z⟩
    have ro := r2.le l3
    have rv := (r1.le l2).le l3
    split at h3
    · rename_i m' e
      unfold dpF at e
      split at e
      · rename_i k ek
        split at e
        · rename_i n
          split at e
          · rename_i ks ds e3
            split at e
            rotate_left
            · cases e
            rename_i hl
            cases e
            cases ro with
            | @ref _ a hn =>
              obtain ⟨a', h4, ys, h5, h7, h6⟩ := st3.at e3
              rw [hn] at h4; cases h4
              have := key_is r3 ek
              subst this
              have kr := kis_put (kis_zip (ks := ks) h6) k rv
              have hput := Le.put (o := .dK (putK (ks.zip ys) k v)) h5 (List.mem_of_getElem? hn)
              have hlen : (ks.zip ys).length < sizeLine := by
                have := cap_line (Nat.le_of_lt hl.2)
                rw [List.length_zip, ← h6.len, ← hl.1, Nat.min_self]
                have h8 : ks.length < cap := hl.2
                have h9 : cap ≤ sizeLine := cap_line (Nat.le_refl _)
                omega
              refine ⟨a, _, rfl, .inl ⟨_, k, h5, rfl, hlen, rfl⟩, h3 ρ3 _ σ hput (st3.put hn ?_) (ev3.le hput)⟩
              refine ⟨(putK (ks.zip ys) k v).map (·.2), ?_, by simp, (kis_vals kr).le hput⟩
              rw [kis_keys kr, zip_unzip, upd_same]
          · cases e
        · cases e
      · cases e
    · exact h3.elim
theorem tpairs_of : ∀ (kfs : List (Str × E1)) (σ : L2.St) (H : Hp) (Q : List V → Hp → Prop) (K : List (V × V) → Hp → Prop), TL T W (listL (kfs.map (·.2))) σ H Q → (∀ vs H2, Q vs H2 → K (((kfs.map (·.1)).zip vs).map (fun kv => (V.str kv.1, kv.2))) H2) → tPairs (kfs.map fun kf => (tC (.str kf.1), TD T W kf.2)) σ H K
  | [], σ, H, Q, K, ⟨ρ, m, μ, st, ev, h⟩, hK => hK [] H (h ρ H [] (.refl _ _) st .nil)
  | (k, f) :: kfs, σ, H, Q, K, ⟨ρ, m, μ, st, ev, h⟩, hK => by
    show TD T W f σ H _
    obtain ⟨ρ0, m0, μ0, s0, e0, h0⟩ := TD.bind (g := fun d m1 => (listL (kfs.map (·.2)) μ m1).bind fun ds m2 => .ok (d :: ds) m2) st ev h
    refine ⟨ρ0, m0, μ0, s0, e0, h0.mono (fun v H1 ⟨ρ1, m1, d, l1, st1, ev1, r1, h1⟩ => ?_) fun _ _ _ z => z⟩
    obtain ⟨ρ0, m0, μ0, s0, e0, h0⟩ := TL.bind (g := fun ds m2 => .ok (d :: ds) m2) st1 ev1 h1
    refine tpairs_of kfs σ H1 (fun vs H2 => Q (v :: vs) H2) _ ⟨ρ0, m0, μ0, s0, e0, h0.mono (fun w H2 ⟨ρ2, m2, d2, l2, st2, ev2, r2, h2⟩ => h2 ρ2 H2 (v :: w) (.refl _ _) st2 (.cons (r1.le l2) r2)) fun _ _ _ z => z⟩ fun vs H2 q => ?_
    exact hK (v :: vs) H2 q
/-- the pairs of a display with text keys -/
def PDk (X : Cx) (pos : Pos) (keys : List (Option Expr)) (values : List Expr) (T : Tab) (W : WX) (kfs : List (Str × E1)) : Prop := PPs X pos keys values (kfs.map fun kf => (tC (.str kf.1), TD T W kf.2))
theorem dk_nil : PDk X pos [] [] T W [] := pps_nil
theorem dk_cons {x : Str} {j : Nat} {p1 : Pos} {e : Expr} {f : E1} {ks : List (Option Expr)} {es : List Expr} {kfs : List (Str × E1)} (he : PE X e (TD T W f)) (hr : PDk X pos ks es T W kfs) : PDk X pos (some (.Constant (.str x) j p1) :: ks) (e :: es) T W ((x, f) :: kfs) := pps_cons pe_str he hr
/-- a display that stands in the store -/
def newDkE (kfs : List (Str × E1)) : E1 := fun μ m => (listL (kfs.map (·.2)) μ (m ++ [.dic [] []])).bind fun ds m1 => match m1[m.length]? with
  | some (.dic [] []) => if ds.length = kfs.length then .ok (.ref m.length) (m1.set m.length (.dic ((kfs.map (·.1)).map .inr) ds)) else .bad
  | _ => .bad
def nodupS (l : List Str) : Bool := decide l.Nodup
theorem merge_new : ∀ (acc kvs : List (Key × V)), ((acc ++ kvs).map (·.1)).Nodup → mergeK acc kvs = acc ++ kvs
  | acc, [], _ => by simp [mergeK]
  | acc, (k, v) :: kvs, h => by
    have hn : (acc.any fun kv => decide (kv.1 = k)) = false := by
      rw [List.any_eq_false]
      intro x hx
      simp only [decide_eq_true_eq]
      intro e
      rw [List.map_append, List.nodup_append] at h
      exact h.2.2 x.1 (List.mem_map_of_mem hx) k (by simp) e
    have e1 : putK acc k v = acc ++ [(k, v)] := by
      unfold putK
      rw [hn]; rfl
    show mergeK (putK acc k v) kvs = _
    rw [e1, merge_new (acc ++ [(k, v)]) kvs (by simpa using h)]
    simp
theorem pd_newDk {keys : List (Option Expr)} {values : List Expr} {kfs : List (Str × E1)} (h : PDk X pos keys values T W kfs) (hall : keys.all (·.isSome) = true) (hl : keys.length = values.length) (h0 : keys ≠ []) (h15 : keys.length ≤ 15) (hk : kfs.length ≤ 15) (nd : (kfs.map (·.1)).Nodup) :
    PE X (.Dict keys values pos) (TD T W (newDkE kfs)) :=
  pe_imp (pe_disp h hall hl h0 h15) fun σ H Q ⟨ρ, m, μ, st, ev, h⟩ p hp => by
    have l0 : Le ρ H (ρ ++ [p]) (upd H p (.dK [])) := .place hp
    have hpn : (ρ ++ [p])[m.length]? = some p := by rw [← st.len]; simp
    unfold newDkE at h
    obtain ⟨ρ0, m0, μ0, s0, e0, h0⟩ := TL.bind (T := T) (W := W) (st.place hp (ob := .dic [] []) ⟨[], upd_same, rfl, .nil⟩) (ev.le l0) (h.le l0)
    refine tpairs_of kfs σ _ _ _ ⟨ρ0, m0, μ0, s0, e0, h0⟩ fun vs H2 ⟨ρ2, m2, ds, l2, st2, ev2, r2, h2⟩ => ?_
    split at h2
    · rename_i e2
      split at h2
      · rename_i hlen
        have hp2 : ρ2[m.length]? = some p := by
          obtain ⟨t, ht, _⟩ := l2.grow
          rw [ht, List.getElem?_append_left (List.getElem?_eq_some_iff.mp hpn).1]
          exact hpn
        obtain ⟨a', h4, ys, h5, _, h6⟩ := st2.at e2
        rw [hp2] at h4; cases h4
        have kl : vs.length = kfs.length := by rw [← r2.len, hlen]
        have hm : (((kfs.map (·.1)).zip vs).map fun kv => ((Sum.inr kv.1 : Key), kv.2)).map (·.1) = (kfs.map (·.1)).map Sum.inr := by
          rw [List.map_map]
          have : ((fun x : Key × V => x.1) ∘ fun kv : Str × V => ((Sum.inr kv.1 : Key), kv.2)) = Sum.inr ∘ Prod.fst := rfl
          rw [this, ← List.map_map, List.map_fst_zip (by rw [List.length_map, kl]; exact Nat.le_refl _)]
        refine ⟨h5, ((kfs.map (·.1)).zip vs).map fun kv => ((Sum.inr kv.1 : Key), kv.2), ?_, ?_, ?_⟩
        · rw [List.map_map]; rfl
        · rw [List.length_map, List.length_zip, List.length_map, kl]; omega
        · have nd2 : ((([] : List (Key × V)) ++ ((kfs.map (·.1)).zip vs).map fun kv => ((Sum.inr kv.1 : Key), kv.2)).map (·.1)).Nodup := by
            rw [List.nil_append, hm]
            exact List.Pairwise.map _ (fun a b h e => h (by cases e; rfl)) nd
          rw [merge_new [] _ nd2, List.nil_append]
          have hput := Le.put (o := .dK (((kfs.map (·.1)).zip vs).map fun kv => ((Sum.inr kv.1 : Key), kv.2))) h5 (List.mem_of_getElem? hp2)
          refine h2 ρ2 _ (.ref p) hput (st2.put hp2 ⟨vs, ?_, ?_, r2.le hput⟩) (.ref hp2)
          · rw [upd_same]
            have z : ∀ (l : List Str) (vs : List V), ((l.zip vs).map fun kv => ((Sum.inr kv.1 : Key), kv.2)) = (l.map Sum.inr).zip vs := fun l => by
              induction l with
              | nil => intro vs; rfl
              | cons a l ih => intro vs; cases vs with
                | nil => rfl
                | cons b vs => simp only [List.zip_cons_cons, List.map_cons, ih]
            rw [z]
          · rw [List.length_map, List.length_map, hlen]
      · exact h2.elim
    · exact h2.elim
end
end DL
end

section
open PySem PySem.Spec PyProof.Rows L2
set_option Elab.async false
set_option linter.all false
set_option maxRecDepth 100000
/-! while; range of two; the script against []; list(x); names of the module; sorted ints; x in a text -/
namespace DL
/-! ### while, of at most so many turns -/
def whileN : Nat → EB → ST → ST
  | 0, _, _ => fun _ _ => .bad
  | n + 1, c, b => fun μ m => match c μ m with
    | .ok true m1 => (match b μ m1 with
      | .nx μ2 m2 => whileN n c b μ2 m2
      | .ct μ2 m2 => whileN n c b μ2 m2
      | .bk μ2 m2 => .nx μ2 m2
      | .ret d m2 => .ret d m2
      | .err c fs μ2 m2 => .err c fs μ2 m2
      | .bad => .bad)
    | .ok false m1 => .nx μ m1
    | .err c fs m1 => .err c fs μ m1
    | .bad => .bad
section
variable {X : Cx} {T : Tab} {W : WX} {pos p : Pos}
theorem sd_while {c : Expr} {body : List Stmt} {fc : EB} {b : ST} (n : Nat) (hp : PassesOwn (model X.prog X.w) X.A X.env X.xe) (hc : PT X c (TB T W fc)) (hb : PSs X body (TDS T W b)) : PS X (.While c body [] pos) (TDS T W (whileN n fc b)) :=
  ps_imp (ps_while hp hc hb) fun Dn σ H ⟨ρ, m, μ, st, ev, h⟩ => by
    refine ⟨fun k σ' H' => ∃ ρ' m' μ', StOk T ρ' m' H' ∧ EnvOk T ρ' H' μ' σ' ∧ PoS T ρ' H' (whileN k fc b μ' m') Dn W, ⟨n, ρ, m, μ, st, ev, h⟩, fun k σ' H' ⟨ρ', m', μ', st', ev', h'⟩ => ?_⟩
    cases k with
    | zero => exact h'.elim
    | succ k =>
      refine ⟨ρ', m', μ', st', ev', ?_⟩
      unfold whileN at h'
      cases e : fc μ' m' with
      | ok t m1 =>
        rw [e] at h'
        intro ρ1 H1 b' l s r
        subst r
        cases t with
        | false => exact PoS.le h' l ρ1 H1 σ' (.refl _ _) s (ev'.le l)
        | true =>
          refine ⟨fun σ2 H2 => ∃ ρ2 m2 μ2, StOk T ρ2 m2 H2 ∧ EnvOk T ρ2 H2 μ2 σ2 ∧ PoS T ρ2 H2 (whileN k fc b μ2 m2) Dn W, fun σ2 H2 z => ⟨k, Nat.lt_succ_self k, z⟩, ρ1, m1, μ', s, ev'.le l, ?_⟩
          have h2 := PoS.le h' l
          dsimp only at h2
          cases eb : b μ' m1 with
          | nx μ2 m2 => rw [eb] at h2; exact fun ρ3 H3 σ3 l4 st3 ev3 => ⟨ρ3, m2, μ2, st3, ev3, PoS.le h2 l4⟩
          | ct μ2 m2 => rw [eb] at h2; exact fun ρ3 H3 σ3 l4 st3 ev3 => ⟨ρ3, m2, μ2, st3, ev3, PoS.le h2 l4⟩
          | bk μ2 m2 => rw [eb] at h2; exact h2
          | ret d2 m2 => rw [eb] at h2; exact h2
          | err c fs μ2 m2 => rw [eb] at h2; exact h2
          | bad => rw [eb] at h2; exact h2
      | err c fs m1 =>
        rw [e] at h'
        exact fun ρ1 H1 cls d l s r => h' ρ1 H1 σ' cls d l s (ev'.le l) r
      | bad => rw [e] at h'; exact h'
end
/-! ### range(i, j) -/
def rngL (i j : Int) : List D := (List.range (j - i).toNat).map fun k => .int (i + (k : Nat))
theorem wk_rngL {T : Tab} {ρ : List Addr} {H : Hp} {i j : Int} : WkD T (Itr i (j - i).toNat) (rngL i j) ρ H where
  goes := fun k ρ1 H1 l hi => (walk_range (lo := i) (n := (j - i).toNat)).goes k H1 (by simpa [rngL] using hi) True.intro
  stops := fun ρ1 H1 l => by
    have : (rngL i j).length = (j - i).toNat := by simp [rngL]
    rw [this]; exact (walk_range (lo := i)).stops H1 True.intro
  yields := fun k ρ1 m H1 x H' l st hi y => by
    obtain ⟨e1, e2⟩ := (walk_range (lo := i) (n := (j - i).toNat)).yields k H1 x H' (by simpa [rngL] using hi) True.intro y
    subst e1 e2
    refine ⟨.int (i + k), ?_, .refl _ _, st, .int _⟩
    have : k < (j - i).toNat := by simpa [rngL] using hi
    simp [rngL, this]
def rng2F : EL → EL := fun f μ m => (f μ m).bind fun ds m1 => match ds with
  | [.int i, .int j] => if -(2 ^ 62) ≤ i ∧ i < 2 ^ 62 ∧ -(2 ^ 62) ≤ j ∧ j < 2 ^ 62 then .ok (rngL i j) m1 else .bad
  | _ => .bad
section
variable {X : Cx} {T : Tab} {W : WX} {pos p : Pos} {tg : Expr}
theorem pid_rng2 {a b : Expr} {f : EL} (hg : Gl X "range") (hm : X.mg "range" = none) (ha : PA X [a, b] (TL T W f)) (hs : starEach [a, b] X.env = [(false, eval a X.env), (false, eval b X.env)] := by rfl) (hs2 : starEach [b] X.env = [(false, eval b X.env)] := by rfl) : PI X tg (.Call (.Name "range" p) [a, b] [] pos) (TIt T W (rng2F f)) :=
  pi_imp (pi_range2 hg hm ha hs hs2) fun σ H R ⟨ρ, m, μ, st, ev, h⟩ => by
    obtain ⟨ρ0, m0, μ0, s0, e0, h0⟩ := TL.bind st ev h
    refine ⟨ρ0, m0, μ0, s0, e0, h0.mono (fun vs H1 ⟨ρ1, m1, ds, l1, st1, ev1, r1, h1⟩ => ?_) fun _ _ _ z => z⟩
    split at h1
    · cases r1 with
      | cons ra rr =>
        cases rr with
        | cons rb rr =>
          cases rr; cases ra; cases rb
          split at h1
          · rename_i hj
            exact ⟨_, _, rfl, hj, h1 ρ1 H1 _ (.refl _ _) st1 wk_rngL⟩
          · exact h1.elim
    · exact h1.elim
/-! ### the script against a list -/
end
def pyS (m : S) : D → Option PyData
  | .scr ds => (pys ds).map .list
  | d => pyM m d
theorem dpS {K : PySem.W.Frag} {T : Tab} {ρ : List Addr} {m : S} {H : Hp} (st : StOk T ρ m H) {d : D} {v : V} {p : PyData} (h : Is T ρ H d v) (e : pyS m d = some p) : Dp K H v p := by
  cases h with
  | scr a b c =>
    simp only [pyS] at e
    rename_i ds
    cases q : pys ds with
    | none => rw [q] at e; cases e
    | some ps => rw [q] at e; cases e; exact .lst (.inl (.inr ⟨_, a⟩)) (Iss.dp c q)
  | non => exact Is.dpM st .non e
  | bl b => exact Is.dpM st (.bl b) e
  | int b => exact Is.dpM st (.int b) e
  | str b => exact Is.dpM st (.str b) e
  | tup a b c => exact Is.dpM st (.tup a b c) e
  | lst a b c => exact Is.dpM st (.lst a b c) e
  | ref a => exact Is.dpM st (.ref a) e
  | _ => cases e
def eqSF : OpF := fun x y m => match pyS m x, pyS m y with
  | some p, some q => if SeqAt.shaped p = true ∧ SeqAt.shaped q = true then .ok (.bl (PyData.eqv p q)) m else .bad
  | _, _ => .bad
def neSF : OpF := fun x y m => match pyS m x, pyS m y with
  | some p, some q => if SeqAt.shaped p = true ∧ SeqAt.shaped q = true then .ok (.bl (!PyData.eqv p q)) m else .bad
  | _, _ => .bad
theorem od_eqS {K : PySem.W.Frag} : OpD (rEqD K) eqSF := by
  intro T ρ m H x y v w Q E st rx ry h
  unfold eqSF at h
  split at h
  · rename_i p q e1 e2
    split at h
    · rename_i hs
      exact ⟨p, q, dpS st rx e1, dpS st ry e2, hs.1, hs.2, h ρ H _ (.refl _ _) st (.bl _)⟩
    · exact h.elim
  · exact h.elim
theorem od_neS {K : PySem.W.Frag} : OpD (rNeD K) neSF := by
  intro T ρ m H x y v w Q E st rx ry h
  unfold neSF at h
  split at h
  · rename_i p q e1 e2
    split at h
    · rename_i hs
      exact ⟨p, q, dpS st rx e1, dpS st ry e2, hs.1, hs.2, h ρ H _ (.refl _ _) st (.bl _)⟩
    · exact h.elim
  · exact h.elim
/-! ### list(x) -/
def seqL (m : S) : D → Option (List D)
  | .tup ds => some ds
  | d => elems m d
def listF : CF := fun ds m => match ds with
  | [d] => match seqL m d with
    | some xs => .ok (.lst xs) m
    | none => .bad
  | _ => .bad
def listNF : CF := fun ds m => match ds with
  | [d] => match seqL m d with
    | some xs => .ok (.ref m.length) (m ++ [.lst xs])
    | none => .bad
  | _ => .bad
abbrev rList (K : PySem.W.Frag) : List V → Hp → VK → Prop := fun xs H Q => ∃ p ys, xs = [.ref p] ∧ (SqL K H p ys ∨ SqT K H p ys) ∧ ∀ l, H l = none → Q (.ref l) (upd H l (.lst ys))
theorem seq_is {K : PySem.W.Frag} {T : Tab} {ρ : List Addr} {m : S} {H : Hp} (st : StOk T ρ m H) {d : D} {v : V} {ds : List D} (r : Is T ρ H d v) (e : seqL m d = some ds) : ∃ p ys, v = .ref p ∧ (SqL K H p ys ∨ SqT K H p ys) ∧ Iss T ρ H ds ys := by
  cases r with
  | tup a b c => cases e; exact ⟨_, _, rfl, .inr (.inl (.inl a)), c⟩
  | lst a b c => cases e; exact ⟨_, _, rfl, .inl (.inl (.inl a)), c⟩
  | scr a b c => cases e; exact ⟨_, _, rfl, .inl (.inl (.inr ⟨_, a⟩)), c⟩
  | ref hn =>
    obtain ⟨a, xs, e1, e2, e3⟩ := elems_is st (.ref hn) e
    exact ⟨a, xs, e1, .inl (.inl e2), e3⟩
  | _ => cases e
theorem cd_list {K : PySem.W.Frag} : CallD (rList K) listF := by
  intro T ρ m H ds vs Q E st r h
  unfold listF at h
  split at h
  · cases r with
    | cons r1 r2 =>
      cases r2
      split at h
      · rename_i xs e
        obtain ⟨p, ys, rfl, hq, rr⟩ := seq_is (K := K) st r1 e
        exact ⟨p, ys, rfl, hq, lst_new st rr h⟩
      · exact h.elim
  · exact h.elim
theorem cd_listN {K : PySem.W.Frag} : CallD (rList K) listNF := by
  intro T ρ m H ds vs Q E st r h
  unfold listNF at h
  split at h
  · cases r with
    | cons r1 r2 =>
      cases r2
      split at h
      · rename_i xs e
        obtain ⟨p, ys, rfl, hq, rr⟩ := seq_is (K := K) st r1 e
        refine ⟨p, ys, rfl, hq, fun l hl => h (ρ ++ [l]) (upd H l (.lst ys)) (.ref l) (.place hl) (st.place hl ⟨_, upd_same, rr.le (.place hl)⟩) (.ref ?_)⟩
        rw [← st.len]
        simp
      · exact h.elim
  · exact h.elim
/-! ### sorted(l), of whole numbers -/
def sortedL (ns : List Int) : List Int := ns.mergeSort (fun a b => decide (a ≤ b))
theorem sorted_uniq {l m : List Int} (p : l.Perm m) (h1 : l.Pairwise (· ≤ ·)) (h2 : m.Pairwise (· ≤ ·)) : l = m := List.Perm.eq_of_pairwise (fun a b _ _ h h' => by omega) h1 h2 p
theorem sortedL_pw (ns : List Int) : (sortedL ns).Pairwise (· ≤ ·) := by
  have := List.pairwise_mergeSort (le := fun a b : Int => decide (a ≤ b)) (fun a b c h1 h2 => by simp at *; omega) (fun a b => by simp; omega) ns
  exact this.imp fun h => by simpa using h
theorem sortedL_perm (ns : List Int) : (sortedL ns).Perm ns := List.mergeSort_perm _ _
def sortedF : CF := fun ds m => match ds with
  | [d] => match elems m d with
    | some xs => match intsOf xs with
      | some ns => .ok (.lst ((sortedL ns).map .int)) m
      | none => .bad
    | none => .bad
  | _ => .bad
theorem ints_iss2 {T : Tab} {ρ : List Addr} {H : Hp} (ns : List Int) : Iss T ρ H (ns.map .int) (ns.map V.int) := by
  induction ns with
  | nil => exact .nil
  | cons n ns ih => exact .cons (.int _) ih
theorem cd_sorted {K : PySem.W.Frag} : CallD (rSortedI K) sortedF := by
  intro T ρ m H ds vs Q E st r h
  unfold sortedF at h
  split at h
  · cases r with
    | cons r1 r2 =>
      cases r2
      split at h
      · rename_i xs e
        split at h
        · rename_i ns e2
          obtain ⟨a, ys, rfl, hr, rr⟩ := elems_is st r1 e
          have := intsOf_is rr e2
          subst this
          refine ⟨a, ns, rfl, .inl hr, fun ns' p hp hs hn => ?_⟩
          have e3 : ns' = sortedL ns := sorted_uniq (hp.trans (sortedL_perm ns).symm) hs (sortedL_pw ns)
          subst e3
          exact lst_new st (ints_iss2 _) h p hn
        · exact h.elim
      · exact h.elim
  · exact h.elim
/-! ### a text in a text -/
def inTF (neg : Bool) : OpF := fun x y m => match x, y with
  | .str a, .str b => .ok (.bl (neg != !(Builtin.Str.occurrences b a 0 b.length 1).isEmpty)) m
  | _, _ => .bad
theorem od_inT : OpD (fun x y H Q => ∃ i j, x = .str i ∧ y = .str j ∧ Q (.bl (!(Builtin.Str.occurrences j i 0 j.length 1).isEmpty)) H) (inTF false) := by
  intro T ρ m H x y v w Q E st rx ry h
  unfold inTF at h
  split at h
  · cases rx; cases ry
    refine ⟨_, _, rfl, rfl, ?_⟩
    have := h ρ H _ (.refl _ _) st (.bl _)
    simpa using this
  · exact h.elim
theorem od_notInT : OpD (fun x y H Q => ∃ i j, x = .str i ∧ y = .str j ∧ Q (.bl (!(!(Builtin.Str.occurrences j i 0 j.length 1).isEmpty))) H) (inTF true) := by
  intro T ρ m H x y v w Q E st rx ry h
  unfold inTF at h
  split at h
  · cases rx; cases ry
    refine ⟨_, _, rfl, rfl, ?_⟩
    have := h ρ H _ (.refl _ _) st (.bl _)
    simpa using this
  · exact h.elim
section
variable {X : Cx} {T : Tab} {W : WX} {pos p : Pos}
theorem pd_inT {a b : Expr} {f g : E1} (ha : PE X a (TD T W f)) (hb : PE X b (TD T W g)) (hm : behindInMarks .In b = false := by with_unfolding_all rfl) : PE X (.Compare a [.In] [b] pos) (TD T W (bin (inTF false) f g)) := pd_cmp od_inT op_in_str hm ha hb
theorem td_inT {a b : Expr} {f g : E1} (ha : PE X a (TD T W f)) (hb : PE X b (TD T W g)) (hm : behindInMarks .In b = false := by with_unfolding_all rfl) : PT X (.Compare a [.In] [b] pos) (TB T W (isB (bin (inTF false) f g))) := td_cmp od_inT op_in_str hm ha hb
theorem pd_notInT {a b : Expr} {f g : E1} (ha : PE X a (TD T W f)) (hb : PE X b (TD T W g)) (hm : behindInMarks .NotIn b = false := by with_unfolding_all rfl) : PE X (.Compare a [.NotIn] [b] pos) (TD T W (bin (inTF true) f g)) := pd_cmp od_notInT op_notin_str hm ha hb
theorem td_notInT {a b : Expr} {f g : E1} (ha : PE X a (TD T W f)) (hb : PE X b (TD T W g)) (hm : behindInMarks .NotIn b = false := by with_unfolding_all rfl) : PT X (.Compare a [.NotIn] [b] pos) (TB T W (isB (bin (inTF true) f g))) := td_cmp od_notInT op_notin_str hm ha hb
theorem pd_eqS {a b : Expr} {f g : E1} {k : Nat} (rg : Rg k X.A) (ha : PE X a (TD T W f)) (hb : PE X b (TD T W g)) (hm : behindInMarks .Eq b = false := by rfl) : PE X (.Compare a [.Eq] [b] pos) (TD T W (bin eqSF f g)) := pd_cmp od_eqS (op_eqD (by have := units65 rg; have e : cLine = 9900 := rfl; rw [e] at this; show X.A.units + 64 < 9900; omega)) hm ha hb
theorem td_eqS {a b : Expr} {f g : E1} {k : Nat} (rg : Rg k X.A) (ha : PE X a (TD T W f)) (hb : PE X b (TD T W g)) (hm : behindInMarks .Eq b = false := by rfl) : PT X (.Compare a [.Eq] [b] pos) (TB T W (isB (bin eqSF f g))) := td_cmp od_eqS (op_eqD (by have := units65 rg; have e : cLine = 9900 := rfl; rw [e] at this; show X.A.units + 64 < 9900; omega)) hm ha hb
theorem pd_neS {a b : Expr} {f g : E1} {k : Nat} (rg : Rg k X.A) (ha : PE X a (TD T W f)) (hb : PE X b (TD T W g)) (hm : behindInMarks .NotEq b = false := by rfl) : PE X (.Compare a [.NotEq] [b] pos) (TD T W (bin neSF f g)) := pd_cmp od_neS (op_neD (by have := units65 rg; have e : cLine = 9900 := rfl; rw [e] at this; show X.A.units + 64 < 9900; omega)) hm ha hb
theorem td_neS {a b : Expr} {f g : E1} {k : Nat} (rg : Rg k X.A) (ha : PE X a (TD T W f)) (hb : PE X b (TD T W g)) (hm : behindInMarks .NotEq b = false := by rfl) : PT X (.Compare a [.NotEq] [b] pos) (TB T W (isB (bin neSF f g))) := td_cmp od_neS (op_neD (by have := units65 rg; have e : cLine = 9900 := rfl; rw [e] at this; show X.A.units + 64 < 9900; omega)) hm ha hb
theorem pd_listC {e : Expr} {f : EL} (hg : Gl X "list") (hm : X.mg "list" = none) (ha : PA X [e] (TL T W f)) (he : starEach [e] X.env = [(false, eval e X.env)] := by rfl) : PE X (.Call (.Name "list" p) [e] [] pos) (TD T W (callE listF f)) :=
  pd_callT cd_list call_list_of hg hm Boot.«list» ha (by decide) (by decide) he rfl
theorem pd_listN {e : Expr} {f : EL} (hg : Gl X "list") (hm : X.mg "list" = none) (ha : PA X [e] (TL T W f)) (he : starEach [e] X.env = [(false, eval e X.env)] := by rfl) : PE X (.Call (.Name "list" p) [e] [] pos) (TD T W (callE listNF f)) :=
  pd_callT cd_listN call_list_of hg hm Boot.«list» ha (by decide) (by decide) he rfl
theorem pd_sorted {e : Expr} {f : EL} (hg : Gl X "sorted") (hm : X.mg "sorted" = none) (ha : PA X [e] (TL T W f)) (he : starEach [e] X.env = [(false, eval e X.env)] := by rfl) : PE X (.Call (.Name "sorted" p) [e] [] pos) (TD T W (callE sortedF f)) :=
  pd_callB cd_sorted cr_sortedI hg hm Boot.«sorted» ha (by decide) (by decide) he rfl
/-- a name of the module that stands for a number or a text -/
theorem pd_gint {x : Str} {i : Int} {t : Tok} (hg : Gl X x) (hm : X.mg x = some (.int i t)) (hd : (x == ("__debug__" : Str)) = false := by decide) : PE X (.Name x pos) (TD T W (cst (.int i))) := pd_cst (pe_glob hg hm (v := .int i) ⟨t, rfl⟩ hd) fun _ _ => .int _
theorem pd_gstr {x : Str} {i : Str} {t : Tok} (hg : Gl X x) (hm : X.mg x = some (.str i t)) (hd : (x == ("__debug__" : Str)) = false := by decide) : PE X (.Name x pos) (TD T W (cst (.str i))) := pd_cst (pe_glob hg hm (v := .str i) ⟨t, rfl⟩ hd) fun _ _ => .str _
/-- a <= b <= c, of whole numbers -/
theorem pd_lele {a b c : Expr} {f1 f2 f3 : E1} (ha : PE X a (TD T W f1)) (hb : PE X b (TD T W f2)) (hc : PE X c (TD T W f3)) (hm : lastMarks [.LtE, .LtE] [b, c] = false := by with_unfolding_all rfl) : PE X (.Compare a [.LtE, .LtE] [b, c] pos) (TD T W (chE leF leF f1 f2 f3)) :=
  pd_chain od_le od_le op_le op_le ha hb hc hm
theorem pd_lelt {a b c : Expr} {f1 f2 f3 : E1} (ha : PE X a (TD T W f1)) (hb : PE X b (TD T W f2)) (hc : PE X c (TD T W f3)) (hm : lastMarks [.LtE, .Lt] [b, c] = false := by with_unfolding_all rfl) : PE X (.Compare a [.LtE, .Lt] [b, c] pos) (TD T W (chE leF ltF f1 f2 f3)) :=
  pd_chain od_le od_lt op_le op_lt ha hb hc hm
end
end DL
end

section
open PySem PySem.Spec PyProof.Rows L2
set_option Elab.async false
set_option linter.all false
set_option maxRecDepth 100000
/-! enumerate(text) -/
namespace L2
/-- the signs of a text, each in a new pair -/
def Itex (z : Str) : It :=
  ⟨fun i _ => i < z.cps.size, fun i H v H' => ∃ T c, v = .ref T ∧ H T = none ∧ H' = upd H T (.tup [.int (i : Nat), .str ⟨#[c]⟩]) ∧ z.cps[i]? = some c, fun i _ => i = z.cps.size⟩
theorem turn_enumX {P : Program} {w : World} {K : PySem.W.Frag} {elts : List Expr} {kk : Nat} {tpos : Pos} (z : Str) (t : Tok) (e it : Addr) :
    Turn P w K (.Tuple elts kk tpos) (Itex z) [e, it] e (fun i h => (∃ old, IsEnum h e it ((i : Nat) : Int) old) ∧ h.IsStrIter it (strIterType z) z t i ∧ e ≠ it) where
  mem := by simp
  obj := fun i h st b hb => by
    obtain ⟨⟨old, he⟩, ⟨o, ho, hc, hd⟩, _⟩ := st
    have e' : b = e ∨ b = it := by simpa using hb
    rcases e' with z | z
    · rw [z]; exact ⟨_, he, fun v q => nomatch q⟩
    · rw [z]; exact ⟨o, ho, fun v q => by rw [hd] at q; cases q⟩
  keep := fun i h h' st k => let ⟨⟨old, he⟩, hi, hne⟩ := st; ⟨⟨old, k e (by simp) _ he⟩, let ⟨o, ho, r⟩ := hi; ⟨o, k it (by simp) o ho, r⟩, hne⟩
  item := by
    intro X hP hw hK hc i pins s σ H E I hf st hg
    subst hP hw hK
    obtain ⟨⟨old, he⟩, hit, hne⟩ := st
    have hel : e < s.heap.objs.size := Heap.lt_size he
    have hil : it < s.heap.objs.size := by obtain ⟨_, q, _⟩ := hit; exact Heap.lt_size q
    refine wpAny_pyNext_enum_itemD (Draws.text (A := X.A.in1) (I.ok.hd hc) it z t) he hit hg hne (by simpa using hne) fun x h' tk hP ho hit' hT hsz hk => ?_
    obtain ⟨c, u, hcx, rfl⟩ := hP
    refine ⟨_, rfl, wpAny_letOwnedTupleGo_enum (s := { s with heap := h', toks := tk + 1 }) ho fun h'' he' sb => ?_⟩
    have hT2 : h''.get? s.heap.objs.size = some { cls := .type "tuple", data := .seq #[.int i tk, .str ⟨#[c]⟩ u] } := (sb.2 _ (Nat.ne_of_gt hel)).trans hT
    have new : ObjOk X.prog X.w (upd H s.heap.objs.size (.tup [.int (i : Nat), .str ⟨#[c]⟩])) h'' s.heap.objs.size (.tup [.int (i : Nat), .str ⟨#[c]⟩]) :=
      ⟨by show 2 ≤ sizeLine; decide, [.int i tk, .str ⟨#[c]⟩ u], .cons ⟨_, rfl⟩ (.cons ⟨_, rfl⟩ .nil), ⟨_, hT2, rfl, _, rfl⟩⟩
    have I1 : Inv X pins σ (upd H s.heap.objs.size (.tup [.int (i : Nat), .str ⟨#[c]⟩])) { s with heap := h'', toks := tk + 1 } :=
      I.turnedNew (ch := [e, it]) (fun b ob hb q => (sb.2 b (fun z => hb (by simp [z]))).trans (hk b ob (fun z => hb (by simp [z])) (fun z => hb (by simp [z])) q)) hf (Nat.le_refl _) new
    refine ⟨.ref s.heap.objs.size, _, I1, rfl, ⟨_, c, rfl, I.hok.fresh (Nat.le_refl _), rfl, hcx⟩, ⟨⟨.str ⟨#[c]⟩ u, ?_⟩, ?_, hne⟩, fun b hb => ?_⟩
    · have e1 : ((i + 1 : Nat) : Int) = (i : Int) + 1 := by omega
      rw [e1]; exact he'
    · obtain ⟨o, ho2, r⟩ := hit'
      exact ⟨o, (sb.2 it (Ne.symm hne)).trans ho2, r⟩
    · have hb' : b < s.heap.objs.size := by
        have e' : b = e ∨ b = it := by simpa using hb
        rcases e' with z | z
        · rw [z]; exact hel
        · rw [z]; exact hil
      rw [upd_ne (Nat.ne_of_lt hb')]
      exact (hf b hb).1
  done := by
    intro X hP hw hK hc i pins s σ H E I hf st hg
    subst hP hw hK
    obtain ⟨⟨old, he⟩, hit, hne⟩ := st
    have hg : i = z.cps.size := hg
    subst hg
    obtain ⟨f0, f1, f2, f3, f4, f5⟩ := hf it (by simp)
    exact wpAny_pyNext_enum_endD (Draws.text (A := X.A.in1) (I.ok.hd hc) it z t) he hit fun h' eb => ⟨rfl, I.turned (t' := s.toks) (fun b o hb q => eb b o hb q) f0 f1 f3 f4 f5⟩
  self := fun A i s Q E st h => let ⟨⟨_, he⟩, _⟩ := st; wpAny_pyIter_enum he h
def iEnumX (ta : TA) : TI := fun σ H R => ta σ H fun vs H1 => ∃ z, vs = [.str z] ∧ R (Itex z) H1
theorem pi_enumX {X : Cx} {e : Expr} {ta : TA} {p pos tpos : Pos} {elts : List Expr} {kk : Nat} (hg : Gl X "enumerate") (hm : X.mg "enumerate" = none) (ha : PA X [e] ta) (hs : starEach [e] X.env = [(false, eval e X.env)] := by rfl) :
    PI X (.Tuple elts kk tpos) (.Call (.Name "enumerate" p) [e] [] pos) (iEnumX ta) := by
  refine ⟨fun pins s σ H R I h => ?_⟩
  refine Call_ (ld_blt I hg hm boot_enumerate (PyProof.Rows.callWith_type1 (thn (ha.run pos pins s σ H _ I h) fun us s1 ⟨vs, H1, I1, r1, q1⟩ => ?_) hs rfl))
  obtain ⟨z, ex, q⟩ := q1
  subst ex
  cases r1 with
  | cons r rr =>
    cases rr
    obtain ⟨t, rfl⟩ := r
    refine call_enumerate_str fun h' he hit hsz hk => wpAny_pyIter_enum he ?_
    have I2 : Inv X pins σ H1 { s1 with heap := h' } := I1.kept (t' := s1.toks) hk
    refine ⟨s1.heap.objs.size + 1, [s1.heap.objs.size + 1, s1.heap.objs.size], _, _, H1, rfl, I2, turn_enumX z t (s1.heap.objs.size + 1) s1.heap.objs.size, ⟨⟨.none, he⟩, hit, Nat.succ_ne_self _⟩, fun b hb => ?_, q⟩
    have e' : b = s1.heap.objs.size + 1 ∨ b = s1.heap.objs.size := by simpa using hb
    have hle : s1.heap.objs.size ≤ b := by
      rcases e' with z | z
      · rw [z]; exact Nat.le_add_right _ _
      · rw [z]; exact Nat.le_refl _
    exact I1.fpOk hle (I1.hok.fresh hle)
end L2
namespace DL
theorem wk_enumX {T : Tab} {ρ : List Addr} {H : Hp} {z : Str} : WkD T (Itex z) (enumD (chars z)) ρ H where
  goes := fun i ρ1 H1 l hi => by
    rw [enumD_len] at hi
    show i < z.cps.size
    simpa [chars] using hi
  stops := fun ρ1 H1 l => by
    show (enumD (chars z)).length = z.cps.size
    rw [enumD_len]; simp [chars]
  yields := fun i ρ1 m H1 x H' l st hi y => by
    obtain ⟨t, c, e1, e2, e3, e4⟩ := y
    subst e1 e3
    refine ⟨.tup [.int (i : Nat), .str ⟨#[c]⟩], enumD_get ?_, .new e2, st.new e2, .tup upd_same (st.free e2) (.cons (.int _) (.cons (.str _) .nil))⟩
    unfold chars
    rw [List.getElem?_map, Array.getElem?_toList, e4]
    rfl
def enumXF : EL → EL := fun f μ m => (f μ m).bind fun ds m1 => match ds with
  | [.str z] => .ok (enumD (chars z)) m1
  | _ => .bad
theorem pid_enumX {X : Cx} {T : Tab} {W : WX} {pos p : Pos} {e : Expr} {f : EL} {tpos : Pos} {elts : List Expr} {kk : Nat} (hg : Gl X "enumerate") (hm : X.mg "enumerate" = none) (ha : PA X [e] (TL T W f)) (hs : starEach [e] X.env = [(false, eval e X.env)] := by rfl) : PI X (.Tuple elts kk tpos) (.Call (.Name "enumerate" p) [e] [] pos) (TIt T W (enumXF f)) :=
  pi_imp (pi_enumX hg hm ha hs) fun σ H R ⟨ρ, m, μ, st, ev, h⟩ => by
    obtain ⟨ρ0, m0, μ0, s0, e0, h0⟩ := TL.bind st ev h
    refine ⟨ρ0, m0, μ0, s0, e0, h0.mono (fun vs H1 ⟨ρ1, m1, ds, l1, st1, ev1, r1, h1⟩ => ?_) fun _ _ _ z => z⟩
    split at h1
    · cases r1 with
      | cons ra rr =>
        cases rr
        cases ra
        exact ⟨_, rfl, h1 ρ1 H1 _ (.refl _ _) st1 wk_enumX⟩
    · exact h1.elim
end DL
end

section
open PySem PySem.Spec PyProof.Rows L2
set_option Elab.async false
set_option linter.all false
set_option maxRecDepth 100000
/-! the body of a generator: if -/
namespace L2
section
variable {X : Cx} {c : Expr} {a b : List Stmt} {pos : Pos} {tc : TT} {t u : TGn}
def tGIf (c : TT) (t u : TGn) : TGn := fun D ys σ H => c σ H fun d H1 => if d = true then t D ys σ H1 else u D ys σ H1
theorem gs_if (hc : PT X c tc) (ha : GSs X a t) (hb : GSs X b u) : GS X (.If c a b pos) (tGIf tc t u) := by
  refine ⟨fun A S ip R n ys s₀ c' fs K J gd lv s σ H D g hn k hI ht => ?_⟩
  obtain ⟨acc, cc, r, I⟩ := hI
  rw [exec_If]
  refine seg_at ?_
  refine seg_bind_wrap (m := PySem.isTrue c X.env (eval c X.env)) (K := fun d => if d = true then execs a X.env else execs b X.env) ?_
  rw [g.over]
  refine wpAny_mono (hc.run _ s σ H _ I ht) (fun d s' hd => ?_) fun x s' hx => k.exc n s₀ x s' hx
  obtain ⟨H1, I1, q1⟩ := hd
  cases d with
  | true => exact ha.run A S ip R n ys s₀ c' fs K J gd lv s' σ H1 D g hn k ⟨acc, cc, r, I1⟩ (by simpa using q1)
  | false => exact hb.run A S ip R n ys s₀ c' fs K J gd lv s' σ H1 D g hn k ⟨acc, cc, r, I1⟩ (by simpa using q1)
end
end L2
end

section
open PySem PySem.Spec PyProof.Rows L2
set_option Elab.async false
set_option linter.all false
set_option maxRecDepth 100000
set_option maxHeartbeats 1000000
/-! the body of a generator: for -/
namespace PySem
section
variable {M : Model} {A : Around} {R : GenEnd} {Y : Protocol} {n : Nat} {s₀ : Shared} {c : Code} {fs : List Frame} {s : Shared} {env : Env}
  {K : Flow → Sem Fin} {H : Value → Sem Fin} {gd : Bool → Bool} {lv : List Value → List Value}
theorem seg_For {target iter : Expr} {body orelse : List Stmt} {pos : Pos} (hs : ∀ x, foldedSetIterable iter env x = pure x)
    (h : wpAny M (A.over c fs) (eval iter env) (fun v s1 => wpAny M (A.over c fs) (pyIter v) (fun it s2 => ∀ p, Seg M A R Y n s₀ (.forLoop target it body orelse env) (M.den (.forLoop target it body orelse env))
      (.ret (fun r => ((match r with | .ok f => (.pure f : Sem Flow) | .error e => .raise e).onRaise fun (x : Value) => do
        if (← field x 1) == Value.none then unsupported "frame.own-activation:exception-without-traceback"
        setFlight x env.frame).wrap K H gd lv) none (gd false) (lv []) c p [] :: fs) s2) (fun x s' => Seg M A R Y n s₀ c (H x) fs s') s1) (fun x s' => Seg M A R Y n s₀ c (H x) fs s') s) :
    Seg M A R Y n s₀ c ((exec (.For target iter body orelse pos) env).wrap K H gd lv) fs s := by
  rw [exec_For]
  refine seg_at ?_
  refine seg_bind_wrap (m := eval iter env) (K := fun x0 => foldedSetIterable iter env x0 >>= fun x => standAt iter.pos >>= fun _ => holding [x] (pyIter x) >>= fun it => runOwn (.forLoop target it body orelse env) env) ?_
  refine wpAny_mono h (fun v s1 h1 => ?_) fun _ _ x => x
  rw [hs]
  refine seg_bind_wrap (m := standAt iter.pos) (K := fun _ => holding [v] (pyIter v) >>= fun it => runOwn (.forLoop target it body orelse env) env) (wpAny_standAt ?_)
  refine seg_bind_wrap (m := holding [v] (pyIter v)) (K := fun it => runOwn (.forLoop target it body orelse env) env) (wpAny_holding ?_)
  refine wpAny_mono h1 (fun it s2 h2 => ?_) fun _ _ x => x
  exact seg_call h2
end
section
variable {prog : Program} {w : World} {A : Around} {R : GenEnd} {Y : Protocol} {n : Nat} {s₀ : Shared} {fs : List Frame} {s : Shared} {env : Env}
def noted (env : Env) (x : Value) : Sem Fin := (do noteFrame x env; theTreesLotGoes x : Sem Unit).wrap (fun _ => .raise x) .raise id id
theorem seg_forLoop {target : Expr} {it : Value} {body : List Stmt}
    (h : wpAny (model prog w) (A.over (.forLoop target it body [] env) fs) (pyNext it) (fun r s1 => match r with
        | none => Seg (model prog w) A R Y n s₀ (.forLoop target it body [] env) (.pure (.again (.block [] env))) fs s1
        | some v => wpAny (model prog w) (A.over (.forLoop target it body [] env) fs) (letOwnedTupleGo target it v) (fun _ s2 => wpAny (model prog w) (A.over (.forLoop target it body [] env) fs) (assign target env v) (fun _ s3 =>
            Seg (model prog w) A R Y n s₀ (.forLoop target it body [] env) ((execs body env).wrap (fun f => match f with
              | .next | .cont => .pure (.again (.forLoop target it body [] env))
              | .brk => .pure (.done .next)
              | .ret v => .pure (.done (.ret v))) (noted env) id id) fs s3)
            (fun x s' => Seg (model prog w) A R Y n s₀ (.forLoop target it body [] env) (noted env x) fs s') s2)
          (fun x s' => Seg (model prog w) A R Y n s₀ (.forLoop target it body [] env) (noted env x) fs s') s1)
      (fun x s' => Seg (model prog w) A R Y n s₀ (.forLoop target it body [] env) (noted env x) fs s') s) :
    Seg (model prog w) A R Y n s₀ (.forLoop target it body [] env) ((model prog w).den (.forLoop target it body [] env)) fs s := by
  show Seg _ A R Y n s₀ _ ((forTurn target it body [] env).onRaise (fun x => do noteFrame x env; theTreesLotGoes x)) fs s
  have hN : (fun x => ((do noteFrame x env; theTreesLotGoes x : Sem Unit).bind fun _ => (.raise x : Sem Fin))) = noted env := by
    funext x
    exact Sem.bind_eq_wrap _ _
  rw [Sem.onRaise_eq_wrap]
  unfold forTurn
  rw [hN]
  refine seg_bind_wrap (m := standAt target.pos) (wpAny_standAt ?_)
  refine seg_bind_wrap (wpAny_onRaise (wpAny_mono h (fun r s1 h1 => ?_) fun x s' hx => wpAny_standAt hx))
  cases r with
  | none => exact h1
  | some v =>
    refine seg_bind_wrap (m := letOwnedTupleGo target it v) (wpAny_mono h1 (fun _ s2 h2 => ?_) fun _ _ x => x)
    refine seg_bind_wrap (m := assign target env v) (wpAny_mono h2 (fun _ s3 h3 => ?_) fun _ _ x => x)
    rw [Sem.bind_eq_wrap', Sem.wrap_wrap]
    rw [Sem.wrap_congr (execs body env) _ _ (K' := fun f => match f with
            | .next | .cont => .pure (.again (.forLoop target it body [] env))
            | .brk => .pure (.done .next)
            | .ret v => .pure (.done (.ret v))) (H' := noted env)
        (fun f => by cases f <;> rfl) (fun e => by rfl)]
    exact h3
end
end PySem
end

section
open PySem PySem.Spec PyProof.Rows L2
set_option Elab.async false
set_option linter.all false
set_option maxRecDepth 100000
set_option maxHeartbeats 1000000
/-! a generator's for -/
namespace L2
section
variable {X : Cx} {pos : Pos}
def tGFor (wi : TI) (g : TG) (tb : TGn) : TGn := fun D ys σ H => wi σ H fun J H1 => ∃ W : Nat → Nat → List V → St → Hp → Prop, (∃ m, W 0 m ys σ H1) ∧ ∀ i m ys σ H, W i m ys σ H →
  (J.stop i H ∧ D.nx ys σ H) ∨ (J.go i H ∧ ∃ N : List V → St → Hp → Prop, (∀ ys' σ' H', N ys' σ' H' → ∃ m', m' < m ∧ W (i + 1) m' ys' σ' H') ∧ ∀ x H', J.yld i H x H' → g x σ H' fun σ2 H2 => tb { D with nx := N, ct := N, bk := D.nx } ys σ2 H2)
theorem gs_for {tg iter : Expr} {body : List Stmt} {wi : TI} {g : TG} {tb : TGn} (hp : PassesOwn (model X.prog X.w) X.A X.env X.xe) (hc : X.calm = true) (hi : PI X tg iter wi) (hg : PG X tg g) (hb : GSs X body tb)
    (hs : ∀ x, foldedSetIterable iter X.env x = pure x := by intro _; rfl) : GS X (.For tg iter body [] pos) (tGFor wi g tb) := by
  refine ⟨fun A S ip R n ys s₀ c fs K Jx gd lv s σ H D g1 hn k hI ht => ?_⟩
  obtain ⟨acc0, cc0, r0, I0⟩ := hI
  refine seg_For hs ?_
  rw [g1.over]
  refine wpAny_mono (hi.run _ s σ H _ I0 ht) (fun v s1 h1 => ?_) fun x s' hx => k.exc n s₀ x s' hx
  refine wpAny_mono h1 (fun itv s2 h2 p => ?_) fun x s' hx => k.exc n s₀ x s' hx
  obtain ⟨it, fp, tn, J, H2, e, I2, T, st2, f2, W, ⟨m0, w0⟩, turn⟩ := h2
  subst e
  have stat : ∀ {H' : Hp} {acc : Array Value} {cc : Nat}, (∀ b ∈ fp, H' b = none) → ∀ b ∈ fp, FpOk X ((S, lstObj acc cc) :: ip) H' b := fun hn b hb => by
    obtain ⟨f0, f1, f2, f3, f4, f5⟩ := f2 b hb
    refine ⟨hn b hb, f1, f2, f3, f4, fun q hq => ?_⟩
    rcases List.mem_append.mp hq with z | z
    · exact f5 q (List.mem_append_left _ z)
    · rcases List.mem_cons.mp z with z | z
      · rw [z]
        exact f5 (S, lstObj acc0 cc0) (List.mem_append_right _ (List.mem_cons_self ..))
      · exact f5 q (List.mem_append_right _ (List.mem_cons_of_mem _ z))
  have nS : ∀ b ∈ fp, b ≠ S := fun b hb z => by
    obtain ⟨_, _, _, _, _, f5⟩ := f2 b hb
    exact f5 (S, lstObj acc0 cc0) (List.mem_append_right _ (List.mem_cons_self ..)) z.symm
  have gl := fun (kk : Result → Sem PySem.Fin) => gc_loop (k := kk) (c' := .forLoop tg (.ref it) body [] X.env) (l := lv []) (kp := []) (p := p) g1 rfl rfl
  have loop : ∀ (m i n : Nat) (ys : List V) (s₀ s : Shared) (σ : St) (H : Hp), n + ys.length = sizeLine → W i m ys σ H → GI X S ip ys σ H s → tn i s.heap → (∀ b ∈ fp, H b = none) →
      Seg (model X.prog X.w) A R (GY X S) n s₀ (.forLoop tg (.ref it) body [] X.env) ((model X.prog X.w).den (.forLoop tg (.ref it) body [] X.env))
        (.ret (fun r => ((match r with | .ok f => (.pure f : Sem Flow) | .error e => .raise e).onRaise (cameBack X.env)).wrap K Jx gd lv) none (gd false) (lv []) c p [] :: fs) s := by
    intro m
    induction m using Nat.strongRecOn with
    | ind m ih =>
      intro i n ys s₀ s σ H hn w hI st fr
      have ee : ∀ (n : Nat) (s₀ : Shared) (x : Value) (s' : Shared), X.xe x s' → Seg (model X.prog X.w) A R (GY X S) n s₀ (.forLoop tg (.ref it) body [] X.env)
          (noted X.env x)
          (.ret (fun r => ((match r with | .ok f => (.pure f : Sem Flow) | .error e => .raise e).onRaise (cameBack X.env)).wrap K Jx gd lv) none (gd false) (lv []) c p [] :: fs) s' := fun n s₀ x s' hx => by
        refine seg_wrap ?_
        rw [(gl _).over]
        refine wpAny_bind (wpAny_mono (hp x s' hx) (fun _ s'' hcb => wpAny_theTreesLotGoes ?_) fun y s'' hcb => ?_)
        · exact seg_leaf (.error x) (seg_cameBack g1 k hcb)
        · exact seg_leaf (.error y) (seg_cameBack g1 k hcb)
      refine seg_forLoop ?_
      rw [(gl _).over]
      obtain ⟨acc, cc, r, I⟩ := hI
      rcases turn i m ys σ H w with ⟨stop, qn⟩ | ⟨go, N, hN, step⟩
      · refine wpAny_mono (T.done X rfl rfl rfl hc i _ s σ H X.xe I (stat fr) st stop) (fun u s4 hu => ?_) fun x s' hx => ee n s₀ x s' hx
        obtain ⟨hr, I4⟩ := hu
        subst hr
        refine seg_again rfl ?_
        exact seg_leaf (.ok .next) (k.ok n ys s₀ s4 .next hn ⟨σ, H, ⟨acc, cc, r, I4⟩, qn⟩)
      · refine wpAny_mono (T.item X rfl rfl rfl hc i _ s σ H X.xe I (stat fr) st go) (fun u s4 hu => ?_) fun x s' hx => ee n s₀ x s' hx
        obtain ⟨u1, hr, h4⟩ := hu
        subst hr
        refine wpAny_mono h4 (fun _ s5 h5 => ?_) fun x s' hx => ee n s₀ x s' hx
        obtain ⟨x, H5, I5, r5, y5, st5, fr5⟩ := h5
        have I5' := I5.pinned (stat fr5) (T.obj _ _ st5)
        refine wpAny_mono (hg.run _ s5 σ H5 x u1 _ I5' r5 (step x H5 y5)) (fun _ s6 h6 => ?_) fun x s' hx => ee n s₀ x s' hx
        obtain ⟨σ6, H6, I6, q6⟩ := h6
        have gc6 : GC X S (ip ++ pinsAt fp s5.heap) A (.forLoop tg (.ref it) body [] X.env) (.ret (fun r => ((match r with | .ok f => (.pure f : Sem Flow) | .error e => .raise e).onRaise (cameBack X.env)).wrap K Jx gd lv) none (gd false) (lv []) c p [] :: fs) id := by
          have G := gl (fun r => ((match r with | .ok f => (.pure f : Sem Flow) | .error e => .raise e).onRaise (cameBack X.env)).wrap K Jx gd lv)
          refine ⟨G.pn, fun q hq => ?_, G.apart, G.over, G.split, G.guard, G.gd⟩
          rcases List.mem_append.mp hq with z | z
          · exact G.ip q z
          · exact nS q.1 (of_pinsAt z).1
        have back : ∀ {ys' : List V} {σ7 : St} {H7 : Hp} {s7 : Shared}, GI X S (ip ++ pinsAt fp s5.heap) ys' σ7 H7 s7 → GI X S ip ys' σ7 H7 s7 ∧ tn (i + 1) s7.heap ∧ ∀ b ∈ fp, H7 b = none := fun {ys' σ7 H7 s7} h7 => by
          obtain ⟨acc7, cc7, r7, I7⟩ := h7
          have I7' : Inv X (((S, lstObj acc7 cc7) :: ip) ++ pinsAt fp s5.heap) σ7 H7 s7 := I7
          refine ⟨⟨acc7, cc7, r7, I7'.unpinned⟩, T.keep _ _ _ st5 fun b hb o e => (I7'.pin (b, o) (List.mem_append_right _ (List.mem_append_right _ (mem_pinsAt hb e)))).1, fun b hb => ?_⟩
          obtain ⟨o, e, d⟩ := T.obj _ _ st5 b hb
          exact (I7'.pin (b, o) (List.mem_append_right _ (List.mem_append_right _ (mem_pinsAt hb e)))).2.1
        refine hb.run A S (ip ++ pinsAt fp s5.heap) R n ys s₀ _ _ _ _ id id s6 σ6 H6 { D with nx := N, ct := N, bk := D.nx } gc6 hn ⟨fun n' ys' s₀' s7 f hn' hs => ?_, fun n' s₀' x s7 hx => ee n' s₀' x s7 hx⟩ ⟨acc, cc, r, I6⟩ q6
        cases f with
        | next =>
          obtain ⟨σ7, H7, I7, n7⟩ := hs
          obtain ⟨b1, b2, b3⟩ := back I7
          obtain ⟨m', hm, w7⟩ := hN ys' σ7 H7 n7
          exact seg_again rfl (ih m' hm (i + 1) n' ys' s₀' s7 σ7 H7 hn' w7 b1 b2 b3)
        | cont =>
          obtain ⟨σ7, H7, I7, n7⟩ := hs
          obtain ⟨b1, b2, b3⟩ := back I7
          obtain ⟨m', hm, w7⟩ := hN ys' σ7 H7 n7
          exact seg_again rfl (ih m' hm (i + 1) n' ys' s₀' s7 σ7 H7 hn' w7 b1 b2 b3)
        | brk =>
          obtain ⟨σ7, H7, I7, q7⟩ := hs
          exact seg_leaf (.ok .next) (k.ok n' ys' s₀' s7 .next hn' ⟨σ7, H7, (back I7).1, q7⟩)
        | ret v =>
          obtain ⟨x7, σ7, H7, I7, r7, q7⟩ := hs
          exact seg_leaf (.ok (.ret v)) (k.ok n' ys' s₀' s7 (.ret v) hn' ⟨x7, σ7, H7, (back I7).1, r7, q7⟩)
  exact loop m0 0 n ys s₀ s2 σ H2 hn w0 ⟨acc0, cc0, r0, I2⟩ st2 fun b hb => (f2 b hb).1
end
end L2
end

section
set_option Elab.async false
set_option linter.all false
set_option maxRecDepth 100000
/-! D39: the model's side of enumerate(zip(v1, v2)): a zip whose last pair may still be held -/
namespace EZ
open PySem PySem.Spec
open Sem (wp)
abbrev ZF (h : Heap) (z TI TO : Addr) (f0 : Value) (b : Bool) : Prop :=
  h.get? z = some { cls := .type "zip", dict := none, data := .fields #[f0, .bool b, .bool false, .ref TI, .ref TO], slots := #[] }
/-- a zip: its pair is free, or at some address -/
def ZA (h : Heap) (z TI TO : Addr) : Prop := ∃ f0 b, (f0 = .none ∨ ∃ T : Nat, f0 = rawInt T) ∧ ZF h z TI TO f0 b
section
variable {prog : Program} {w : World} {A : Around} {E : Value → Shared → Prop} {s : Shared}
theorem alive_any {a : Addr} {Q : Option Obj → Shared → Prop} (h : Q (s.heap.get? a) s) : wpAny (model prog w) A (loadIfAlive a) Q E s := fun _ _ _ => h
theorem za_free {z TI TO : Addr} {Q : Bool → Shared → Prop} (hz : ZA s.heap z TI TO)
    (h : ∀ r h', ZA h' z TI TO → Heap.SameBut z s.heap h' → Q r { s with heap := h' }) : wpAny (model prog w) A (Builtin.SmallTypes.ownedTupleIsFree (.ref z)) Q E s := by
  obtain ⟨f0, b, e, hz⟩ := hz
  unfold Builtin.SmallTypes.ownedTupleIsFree
  refine wpAny_bind (wpAny_field hz rfl (x := f0) rfl ?_)
  rcases e with e | ⟨T, e⟩
  · subst e
    exact wpAny_pure (h true s.heap ⟨_, _, .inl rfl, hz⟩ (Heap.SameBut.refl _ _))
  · subst e
    show wpAny _ _ (loadIfAlive ((T : Int).toNat) >>= _) _ _ _
    refine wpAny_bind (alive_any ?_)
    split
    · exact wpAny_pure (h true s.heap ⟨_, _, .inr ⟨_, rfl⟩, hz⟩ (Heap.SameBut.refl _ _))
    · refine wpAny_bind (wpAny_field hz rfl (x := .bool b) rfl ?_)
      cases b with
      | true =>
        rw [if_neg (show ¬ ((Value.bool true != Value.bool true) = true) from Bool.false_ne_true)]
        exact wpAny_pure (h false s.heap ⟨_, _, .inr ⟨_, rfl⟩, hz⟩ (Heap.SameBut.refl _ _))
      | false =>
        rw [if_pos (show (Value.bool false != Value.bool true) = true from rfl)]
        exact wpAny_bind (wpAny_setField_rec hz (by simp) fun h₁ hz₁ hs₁ => wpAny_pure (h false h₁ ⟨_, true, .inr ⟨_, rfl⟩, hz₁⟩ hs₁))

/-- the cells of a zip and of what its iterators stand on -/
theorem za_setF {z TI TO : Addr} {f0 : Value} {b : Bool} {x : Value} {Q : Unit → Shared → Prop} (hz : ZF s.heap z TI TO f0 b) (h : ∀ h', ZF h' z TI TO x b → Heap.SameBut z s.heap h' → Q () { s with heap := h' }) :
    wpAny (model prog w) A (setField (.ref z) 0 x) Q E s := wpAny_setField_rec hz (by simp) fun h' hz' hs' => h h' hz' hs'
theorem zip_item {i1 i2 z TI TO : Addr} {fp1 fp2 : List Addr} {n1 n2 i : Nat} {P1 P2 : Nat → Value → Prop} {St1 St2 : Nat → Heap → Prop} {a1 a2 : Value} {Q : Value → Shared → Prop}
    (S : ZipSep2 z TI TO i1 i2 fp1 fp2) (D1 : Draws prog w A i1 fp1 n1 P1 St1) (D2 : Draws prog w A i2 fp2 n2 P2 St2)
    (hz : ZA s.heap z TI TO) (hTI : IsTupOf2 s.heap TI (.ref i1) (.ref i2)) (hTO : IsTupOf2 s.heap TO a1 a2) (st1 : St1 i s.heap) (st2 : St2 i s.heap) (hlt1 : i < n1) (hlt2 : i < n2)
    (hQ : ∀ x1 x2 h' tk, P1 i x1 → P2 i x2 → ZA h' z TI TO → (∃ a1 a2, IsTupOf2 h' TO a1 a2) → St1 (i + 1) h' → St2 (i + 1) h' → IsTupOf2 h' s.heap.objs.size x1 x2 → h'.objs.size = s.heap.objs.size + 1 →
      (∀ c o, c ≠ z → c ≠ TO → c ≠ i1 → c ≠ i2 → s.heap.get? c = some o → h'.get? c = some o) → Q (.ref s.heap.objs.size) { s with heap := h', toks := tk }) :
    wpAny (model prog w) A (Builtin.«zip.__next__» ⟨[.ref z], []⟩) (fun fin s' => ∃ v, fin = .done (.ret v) ∧ Q v s') E s := by
  obtain ⟨hp, g, d, tk0, os⟩ := s
  obtain ⟨f0, fb, fe, hz1⟩ := id hz
  have zTI : hp.get? TI = _ := hTI
  show wpAny _ _ (field (.ref z) 2 >>= _) _ _ _
  refine wpAny_bind (wpAny_field hz1 rfl (x := .bool false) rfl ?_)
  show wpAny _ _ (field (.ref z) 3 >>= _) _ _ _
  refine wpAny_bind (wpAny_field hz1 rfl (x := .ref TI) rfl ?_)
  refine wpAny_bind (wpAny_seqItems hTI rfl ?_)
  show wpAny _ _ (Builtin.SmallTypes.ownedTupleIsFree (.ref z) >>= _) _ _ _
  refine wpAny_bind (za_free hz fun r q0 hzq hs0 => ?_)
  replace hs0 : Heap.SameBut z hp q0 := hs0
  obtain ⟨f0', fb', fe', hzq1⟩ := id hzq
  have sz1 : z ≠ i1 := S.zi1
  have sz2 : z ≠ i2 := S.zi2
  cases r with
  | false =>
    simp only [Bool.false_eq_true, if_false]
    refine wpAny_bind ?_
    rw [← Array.forIn_toList]
    simp only [List.forIn_cons, List.forIn_nil]
    refine wpAny_bind (wpAny_bind (wpAny_holding ?_))
    show wpAny _ _ (Builtin.SmallTypes.nextOf (.ref i1) >>= _) _ _ ⟨q0, g, d, tk0, os⟩
    refine wpAny_bind (D1.item i _ _ _ hlt1 (D1.over st1 hs0 S.zf1) fun x1 p1 tk1 hx1 sn1 hp1 => wpAny_pure ?_)
    replace hp1 : Heap.SameBut i1 q0 p1 := hp1
    refine wpAny_pure ?_
    refine wpAny_bind (wpAny_bind (wpAny_holding ?_))
    show wpAny _ _ (Builtin.SmallTypes.nextOf (.ref i2) >>= _) _ _ ⟨p1, g, d, tk1, os⟩
    refine wpAny_bind (D2.item i _ _ _ hlt2 (D2.over (D2.over st2 hs0 S.zf2) hp1 S.sep1_2) fun x2 p2 tk2 hx2 sn2 hp2 => wpAny_pure ?_)
    replace hp2 : Heap.SameBut i2 p1 p2 := hp2
    refine wpAny_pure (wpAny_pure ?_)
    show wpAny _ _ (newTuple [x1, x2] >>= _) _ _ ⟨p2, g, d, tk2, os⟩
    refine wpAny_bind (wpAny_newTuple (wpAny_pure ⟨_, rfl, ?_⟩))
    have hsz : p2.objs.size = hp.objs.size := by rw [hp2.1, hp1.1, hs0.1]
    have hz3 : ZA p2 z TI TO := ⟨_, _, fe', hp2.extBut _ _ sz2 (hp1.extBut _ _ sz1 hzq1)⟩
    have hTO2 : IsTupOf2 p2 TO a1 a2 := hp2.extBut _ _ S.Ti2 (hp1.extBut _ _ S.Ti1 (hs0.extBut _ _ S.TOz hTO))
    have hk : ∀ c o, c ≠ z → c ≠ TO → c ≠ i1 → c ≠ i2 → hp.get? c = some o → p2.get? c = some o := fun c o c1 _ c2 c3 e => hp2.extBut _ _ c3 (hp1.extBut _ _ c2 (hs0.extBut _ _ c1 e))
    have hs1 : St1 (i + 1) p2 := D1.over sn1 hp2 S.sep2_1
    have hT4 : IsTupOf2 (p2.push { cls := .type "tuple", data := .seq #[x1, x2] }) p2.objs.size x1 x2 := Heap.get?_push_size _ rfl
    have hz4 : (p2.push { cls := .type "tuple", data := .seq #[x1, x2] }).objs.size = p2.objs.size + 1 := Heap.size_push ..
    show Q (.ref p2.objs.size) _
    rw [hsz] at hT4 hz4 ⊢
    obtain ⟨u0, ub, ue, hz5⟩ := hz3
    exact hQ x1 x2 _ tk2 hx1 hx2 ⟨u0, ub, ue, Heap.get?_push_of_some _ hz5⟩ ⟨_, _, Heap.get?_push_of_some _ hTO2⟩ (D1.frame _ _ _ hs1 fun b _ o e => Heap.get?_push_of_some _ e) (D2.frame _ _ _ sn2 fun b _ o e => Heap.get?_push_of_some _ e) hT4 hz4 fun c o c1 c2 c3 c4 e => Heap.get?_push_of_some _ (hk c o c1 c2 c3 c4 e)
  | true =>
    simp only [if_true]
    refine wpAny_bind (wpAny_rule ?_)
    refine wpAny_bind (wpAny_field hzq1 rfl (x := .ref TO) rfl ?_)
    refine wpAny_bind (za_setF hzq1 fun g0 hz0 hs0' => ?_)
    replace hs0' : Heap.SameBut z q0 g0 := hs0'
    have hTO0 : IsTupOf2 g0 TO a1 a2 := hs0'.extBut _ _ S.TOz (hs0.extBut _ _ S.TOz hTO)
    refine wpAny_bind ?_
    simp only [List.zipIdx_cons, List.zipIdx_nil, List.forIn_cons, List.forIn_nil]
    refine wpAny_bind (wpAny_bind (wpAny_onRaise ?_))
    show wpAny _ _ (Builtin.SmallTypes.nextOf (.ref i1) >>= _) _ _ ⟨g0, g, d, tk0, os⟩
    refine wpAny_bind (D1.item i _ _ _ hlt1 (D1.over (D1.over st1 hs0 S.zf1) hs0' S.zf1) fun x1 p1 tk1 hx1 sn1 hp1 => wpAny_pure ?_)
    replace hp1 : Heap.SameBut i1 g0 p1 := hp1
    have hU1 : IsTupOf2 p1 TO a1 a2 := hp1.extBut _ _ S.Ti1 hTO0
    refine wpAny_bind (wpAny_seqItems (s := ⟨p1, g, d, tk1, os⟩) hU1 rfl ?_)
    refine wpAny_bind (updateSeq_IsTupOf2 (s := ⟨p1, g, d, tk1, os⟩) hU1 fun g1 hT1 hs1 => ?_)
    replace hT1 : IsTupOf2 g1 TO x1 a2 := hT1
    replace hs1 : Heap.SameBut TO p1 g1 := hs1
    refine wpAny_bind (wpAny_letGo (wpAny_pure ?_))
    refine wpAny_bind (wpAny_bind (wpAny_onRaise ?_))
    show wpAny _ _ (Builtin.SmallTypes.nextOf (.ref i2) >>= _) _ _ ⟨g1, g, d, tk1, os⟩
    refine wpAny_bind (D2.item i _ _ _ hlt2 (D2.over (D2.over (D2.over (D2.over st2 hs0 S.zf2) hs0' S.zf2) hp1 S.sep1_2) hs1 S.Tf2) fun x2 p2 tk2 hx2 sn2 hp2 => wpAny_pure ?_)
    replace hp2 : Heap.SameBut i2 g1 p2 := hp2
    have hU2 : IsTupOf2 p2 TO x1 a2 := hp2.extBut _ _ S.Ti2 hT1
    refine wpAny_bind (wpAny_seqItems (s := ⟨p2, g, d, tk2, os⟩) hU2 rfl ?_)
    refine wpAny_bind (updateSeq_IsTupOf2 (s := ⟨p2, g, d, tk2, os⟩) hU2 fun g2 hT2 hs2 => ?_)
    replace hT2 : IsTupOf2 g2 TO x1 x2 := hT2
    replace hs2 : Heap.SameBut TO p2 g2 := hs2
    refine wpAny_bind (wpAny_letGo (wpAny_pure (wpAny_pure ?_)))
    refine wpAny_bind (wpAny_seqItems (s := ⟨g2, g, d, tk2, os⟩) hT2 rfl ?_)
    refine wpAny_bind (wpAny_newTuple ?_)
    have hsz : g2.objs.size = hp.objs.size := by rw [hs2.1, hp2.1, hs1.1, hp1.1, hs0'.1, hs0.1]
    have hzz : ZF g2 z TI TO .ellipsis fb' := hs2.extBut _ _ S.TOz.symm (hp2.extBut _ _ sz2 (hs1.extBut _ _ S.TOz.symm (hp1.extBut _ _ sz1 hz0)))
    have hkk : ∀ c o, c ≠ z → c ≠ TO → c ≠ i1 → c ≠ i2 → hp.get? c = some o → g2.get? c = some o := fun c o cz cT c1 c2 e =>
      hs2.extBut _ _ cT (hp2.extBut _ _ c2 (hs1.extBut _ _ cT (hp1.extBut _ _ c1 (hs0'.extBut _ _ cz (hs0.extBut _ _ cz e)))))
    have hj1 : St1 (i + 1) g2 := D1.over (D1.over (D1.over sn1 hs1 S.Tf1) hp2 S.sep2_1) hs2 S.Tf1
    have hj2 : St2 (i + 1) g2 := D2.over sn2 hs2 S.Tf2
    have hzlt : z < g2.objs.size := Heap.lt_size hzz
    show wpAny _ _ (Builtin.SmallTypes.ownedTupleHandOut (.ref z) (.ref g2.objs.size) >>= _) _ _ ⟨g2.push { cls := .type "tuple", data := .seq #[x1, x2] }, g, d, tk2, os⟩
    refine wpAny_bind ?_
    unfold Builtin.SmallTypes.ownedTupleHandOut
    have hz6 : ZF (g2.push { cls := .type "tuple", data := .seq #[x1, x2] }) z TI TO .ellipsis fb' := Heap.get?_push_of_some _ hzz
    refine wpAny_bind (za_setF (x := rawInt g2.objs.size) hz6 fun h7 hz7 hs7 => ?_)
    replace hs7 : Heap.SameBut z (g2.push { cls := .type "tuple", data := .seq #[x1, x2] }) h7 := hs7
    refine wpAny_setField_rec hz7 (by simp) fun h8 hz8 hs8 => ?_
    replace hs8 : Heap.SameBut z h7 h8 := hs8
    replace hz8 : ZF h8 z TI TO (rawInt g2.objs.size) false := hz8
    have up : ∀ c o, c ≠ z → g2.get? c = some o → h8.get? c = some o := fun c o c1 e => hs8.extBut _ _ c1 (hs7.extBut _ _ c1 (Heap.get?_push_of_some _ e))
    have hT8 : IsTupOf2 h8 g2.objs.size x1 x2 := hs8.extBut _ _ (Nat.ne_of_gt hzlt) (hs7.extBut _ _ (Nat.ne_of_gt hzlt) (Heap.get?_push_size _ rfl))
    have hn8 : h8.objs.size = g2.objs.size + 1 := by rw [hs8.1, hs7.1, Heap.size_push]
    rw [hsz] at hT8 hn8
    refine wpAny_pure ⟨_, rfl, ?_⟩
    show Q (.ref g2.objs.size) ⟨h8, g, d, tk2, os⟩
    rw [hsz]
    exact hQ x1 x2 h8 tk2 hx1 hx2 ⟨_, _, .inr ⟨_, rfl⟩, hz8⟩ ⟨_, _, up _ _ S.TOz hT2⟩ (D1.frame _ _ _ hj1 fun b hb o e => up b o (fun q => S.zf1 (q ▸ hb)) e) (D2.frame _ _ _ hj2 fun b hb o e => up b o (fun q => S.zf2 (q ▸ hb)) e) hT8 hn8 fun c o cz cT c1 c2 e => up c o cz (hkk c o cz cT c1 c2 e)

theorem zip_end {i1 i2 z TI TO : Addr} {fp1 fp2 : List Addr} {n1 n2 i : Nat} {P1 P2 : Nat → Value → Prop} {St1 St2 : Nat → Heap → Prop} {a1 a2 : Value} {Q : Fin → Shared → Prop}
    (S : ZipSep2 z TI TO i1 i2 fp1 fp2) (D1 : Draws prog w A i1 fp1 n1 P1 St1) (D2 : Draws prog w A i2 fp2 n2 P2 St2)
    (hz : ZA s.heap z TI TO) (hTI : IsTupOf2 s.heap TI (.ref i1) (.ref i2)) (hTO : IsTupOf2 s.heap TO a1 a2) (st1 : St1 i s.heap) (st2 : St2 i s.heap) (hle1 : i ≤ n1) (hle2 : i ≤ n2) (hend : i = n1 ∨ i = n2)
    (hE : ∀ h' tk e, (∀ c o, c ≠ z → c ≠ TO → c ≠ i1 → c ≠ i2 → s.heap.get? c = some o → h'.get? c = some o) → (∃ o, h'.get? e = some o ∧ o.cls = .type "StopIteration") → E (.ref e) { s with heap := h', toks := tk }) :
    wpAny (model prog w) A (Builtin.«zip.__next__» ⟨[.ref z], []⟩) Q E s := by
  obtain ⟨hp, g, d, tk0, os⟩ := s
  obtain ⟨f0, fb, fe, hz1⟩ := id hz
  show wpAny _ _ (field (.ref z) 2 >>= _) _ _ _
  refine wpAny_bind (wpAny_field hz1 rfl (x := .bool false) rfl ?_)
  show wpAny _ _ (field (.ref z) 3 >>= _) _ _ _
  refine wpAny_bind (wpAny_field hz1 rfl (x := .ref TI) rfl ?_)
  refine wpAny_bind (wpAny_seqItems hTI rfl ?_)
  show wpAny _ _ (Builtin.SmallTypes.ownedTupleIsFree (.ref z) >>= _) _ _ _
  refine wpAny_bind (za_free hz fun r q0 hzq hs0 => ?_)
  replace hs0 : Heap.SameBut z hp q0 := hs0
  obtain ⟨f0', fb', fe', hzq1⟩ := id hzq
  have sz1 : z ≠ i1 := S.zi1
  have sz2 : z ≠ i2 := S.zi2
  cases r with
  | false =>
    simp only [Bool.false_eq_true, if_false]
    refine wpAny_bind ?_
    rw [← Array.forIn_toList]
    simp only [List.forIn_cons, List.forIn_nil]
    refine wpAny_bind (wpAny_bind (wpAny_holding ?_))
    show wpAny _ _ (Builtin.SmallTypes.nextOf (.ref i1) >>= _) _ _ ⟨q0, g, d, tk0, os⟩
    by_cases hlt1 : i < n1
    · refine wpAny_bind (D1.item i _ _ _ hlt1 (D1.over st1 hs0 S.zf1) fun x1 p1 tk1 hx1 sn1 hp1 => wpAny_pure ?_)
      replace hp1 : Heap.SameBut i1 q0 p1 := hp1
      refine wpAny_pure ?_
      have hi2 : i = n2 := by omega
      refine wpAny_bind (wpAny_bind (wpAny_holding ?_))
      show wpAny _ _ (Builtin.SmallTypes.nextOf (.ref i2) >>= _) _ _ ⟨p1, g, d, tk1, os⟩
      refine wpAny_bind (D2.done ⟨p1, g, d, tk1, os⟩ _ _ (by rw [← hi2]; exact D2.over (D2.over st2 hs0 S.zf2) hp1 S.sep1_2) fun q e hq he => ?_)
      replace hq : Heap.ExtBut i2 p1 q := hq
      exact hE q tk1 e (fun c o cz cT c1 c2 x => hq _ _ c2 (hp1.extBut _ _ c1 (hs0.extBut _ _ cz x))) he
    · have hi1 : i = n1 := by omega
      refine wpAny_bind (D1.done ⟨q0, g, d, tk0, os⟩ _ _ (by rw [← hi1]; exact D1.over st1 hs0 S.zf1) fun q e hq he => ?_)
      replace hq : Heap.ExtBut i1 q0 q := hq
      exact hE q tk0 e (fun c o cz cT c1 c2 x => hq _ _ c1 (hs0.extBut _ _ cz x)) he
  | true =>
    simp only [if_true]
    refine wpAny_bind (wpAny_rule ?_)
    refine wpAny_bind (wpAny_field hzq1 rfl (x := .ref TO) rfl ?_)
    refine wpAny_bind (za_setF hzq1 fun g0 hz0 hs0' => ?_)
    replace hs0' : Heap.SameBut z q0 g0 := hs0'
    have hTO0 : IsTupOf2 g0 TO a1 a2 := hs0'.extBut _ _ S.TOz (hs0.extBut _ _ S.TOz hTO)
    refine wpAny_bind ?_
    simp only [List.zipIdx_cons, List.zipIdx_nil, List.forIn_cons, List.forIn_nil]
    refine wpAny_bind (wpAny_bind (wpAny_onRaise ?_))
    show wpAny _ _ (Builtin.SmallTypes.nextOf (.ref i1) >>= _) _ _ ⟨g0, g, d, tk0, os⟩
    by_cases hlt1 : i < n1
    · refine wpAny_bind (D1.item i _ _ _ hlt1 (D1.over (D1.over st1 hs0 S.zf1) hs0' S.zf1) fun x1 p1 tk1 hx1 sn1 hp1 => wpAny_pure ?_)
      replace hp1 : Heap.SameBut i1 g0 p1 := hp1
      have hU1 : IsTupOf2 p1 TO a1 a2 := hp1.extBut _ _ S.Ti1 hTO0
      refine wpAny_bind (wpAny_seqItems (s := ⟨p1, g, d, tk1, os⟩) hU1 rfl ?_)
      refine wpAny_bind (updateSeq_IsTupOf2 (s := ⟨p1, g, d, tk1, os⟩) hU1 fun g1 hT1 hs1 => ?_)
      replace hs1 : Heap.SameBut TO p1 g1 := hs1
      refine wpAny_bind (wpAny_letGo (wpAny_pure ?_))
      have hi2 : i = n2 := by omega
      refine wpAny_bind (wpAny_bind (wpAny_onRaise ?_))
      show wpAny _ _ (Builtin.SmallTypes.nextOf (.ref i2) >>= _) _ _ ⟨g1, g, d, tk1, os⟩
      refine wpAny_bind (D2.done ⟨g1, g, d, tk1, os⟩ _ _ (by rw [← hi2]; exact D2.over (D2.over (D2.over (D2.over st2 hs0 S.zf2) hs0' S.zf2) hp1 S.sep1_2) hs1 S.Tf2) fun q e hq he => ?_)
      replace hq : Heap.ExtBut i2 g1 q := hq
      obtain ⟨oe, hoe, hce⟩ := he
      replace hoe : q.get? e = some oe := hoe
      have hzq3 : ZF q z TI TO .ellipsis fb' := hq _ _ sz2 (hs1.extBut _ _ S.TOz.symm (hp1.extBut _ _ sz1 hz0))
      have hez : e ≠ z := fun x => by subst x; rw [hzq3] at hoe; cases hoe; simp at hce
      refine za_setF (s := ⟨q, g, d, tk1, os⟩) hzq3 fun q' _ hq' => ?_
      replace hq' : Heap.SameBut z q q' := hq'
      exact hE q' tk1 e (fun c o cz cT c1 c2 x => hq'.extBut _ _ cz (hq _ _ c2 (hs1.extBut _ _ cT (hp1.extBut _ _ c1 (hs0'.extBut _ _ cz (hs0.extBut _ _ cz x)))))) ⟨oe, hq'.extBut _ _ hez hoe, hce⟩
    · have hi1 : i = n1 := by omega
      refine wpAny_bind (D1.done ⟨g0, g, d, tk0, os⟩ _ _ (by rw [← hi1]; exact D1.over (D1.over st1 hs0 S.zf1) hs0' S.zf1) fun q e hq he => ?_)
      replace hq : Heap.ExtBut i1 g0 q := hq
      obtain ⟨oe, hoe, hce⟩ := he
      replace hoe : q.get? e = some oe := hoe
      have hzq3 : ZF q z TI TO .ellipsis fb' := hq _ _ sz1 hz0
      have hez : e ≠ z := fun x => by subst x; rw [hzq3] at hoe; cases hoe; simp at hce
      refine za_setF (s := ⟨q, g, d, tk0, os⟩) hzq3 fun q' _ hq' => ?_
      replace hq' : Heap.SameBut z q q' := hq'
      exact hE q' tk0 e (fun c o cz cT c1 c2 x => hq'.extBut _ _ cz (hq _ _ c1 (hs0'.extBut _ _ cz (hs0.extBut _ _ cz x)))) ⟨oe, hq'.extBut _ _ hez hoe, hce⟩

/-- next of an enumerate, its iterator told by what it gives -/
theorem enum_item {e it : Addr} {i : Nat} {old : Value} {C : Value → Heap → Prop} {Q : Option Value → Shared → Prop}
    (hne : e ≠ it) (he : IsEnum s.heap e it i old)
    (hn : ∀ (Q' : Value → Shared → Prop) (E' : Value → Shared → Prop), (∀ x h1 tk, C x h1 → IsEnum h1 e it i old → Q' x { s with heap := h1, toks := tk }) → wpAny (model prog w) A.in1 (Builtin.SmallTypes.nextOf (.ref it)) Q' E' s)
    (hQ : ∀ x h1 h' tk, C x h1 → IsEnumOut h' e it ((i : Int) + 1) x h1.objs.size → h'.get? h1.objs.size = some { cls := .type "tuple", data := .seq #[.int i tk, x] } → h'.objs.size = h1.objs.size + 1 →
      (∀ b o, b ≠ e → h1.get? b = some o → h'.get? b = some o) → Q (some (.ref h1.objs.size)) { s with heap := h', toks := tk + 1 }) :
    wpAny (model prog w) A (pyNext (.ref e)) Q E s := by
  obtain ⟨hp, g, d, tk0, os⟩ := s
  have hT : (⟨hp, g, d, tk0, os⟩ : Shared).TypeIs (.ref e) "enumerate" := ⟨_, he, rfl⟩
  unfold pyNext
  refine wpAny_bind (wpAny_attempt (wpAny_callSpecial?_slot (name := Str.ofString "__next__") hT F.slot_enumerate_next
    (wpAny_call_entry F.slot_enumerate_next hT F.entry_enumerate_next ?_ (F.args_enumerate_next_1 _))))
  show wpAny _ _ (field (.ref e) 2 >>= _) _ _ _
  refine wpAny_bind (wpAny_field he rfl (x := .ref it) rfl ?_)
  refine wpAny_bind (hn _ _ fun x h1 tk hc he1 => ?_)
  show wpAny _ _ (field (.ref e) 3 >>= _) _ _ ⟨h1, g, d, tk, os⟩
  refine wpAny_bind (wpAny_field he1 rfl (x := rawInt i) rfl ?_)
  show wpAny _ _ (field (.ref e) 4 >>= _) _ _ ⟨h1, g, d, tk, os⟩
  refine wpAny_bind (wpAny_field he1 rfl (x := .none) rfl ?_)
  show wpAny _ _ (mkInt i >>= _) _ _ ⟨h1, g, d, tk, os⟩
  refine wpAny_bind (wpAny_mkInt ?_)
  show wpAny _ _ (setField (.ref e) 3 (rawInt ((i : Int) + 1)) >>= _) _ _ ⟨h1, g, d, tk + 1, os⟩
  refine wpAny_bind (wpAny_setField_rec he1 (by simp) fun h2 he2 hs2 => ?_)
  replace hs2 : Heap.SameBut e h1 h2 := hs2
  replace he2 : IsEnum h2 e it ((i : Int) + 1) old := he2
  show wpAny _ _ (setField (.ref e) 4 .none >>= _) _ _ ⟨h2, g, d, tk + 1, os⟩
  refine wpAny_bind (wpAny_setField_rec he2 (by simp) fun h3 he3 hs3 => ?_)
  replace hs3 : Heap.SameBut e h2 h3 := hs3
  replace he3 : IsEnum h3 e it ((i : Int) + 1) old := he3
  show wpAny _ _ (newTuple [.int i tk, x] >>= _) _ _ ⟨h3, g, d, tk + 1, os⟩
  refine wpAny_bind (wpAny_newTuple ?_)
  have hel : e < h1.objs.size := Heap.lt_size he1
  have hsz : h3.objs.size = h1.objs.size := by rw [hs3.1, hs2.1]
  have he4 : IsEnum (h3.push { cls := .type "tuple", data := .seq #[.int i tk, x] }) e it ((i : Int) + 1) old := Heap.get?_push_of_some _ he3
  generalize hh4 : h3.push { cls := .type "tuple", data := .seq #[.int i tk, x] } = h4 at he4
  have ht4 : h4.get? h1.objs.size = some { cls := .type "tuple", data := .seq #[.int i tk, x] } := by rw [← hh4, ← hsz]; exact Heap.get?_push_size _ rfl
  have hz4 : h4.objs.size = h1.objs.size + 1 := by rw [← hh4, Heap.size_push, hsz]
  have hk4 : ∀ b o, b ≠ e → h1.get? b = some o → h4.get? b = some o := fun b o hbe hb => by
    rw [← hh4]; exact Heap.get?_push_of_some _ (hs3.extBut b o hbe (hs2.extBut b o hbe hb))
  show wpAny _ _ (Builtin.SmallTypes.ownedTupleIsFree (.ref e) >>= _) _ _ ⟨h4, g, d, tk + 1, os⟩
  rw [hsz]
  clear hh4 he3 hs3 he2 hs2 hsz h3 h2
  refine wpAny_bind ?_
  unfold Builtin.SmallTypes.ownedTupleIsFree
  refine wpAny_bind (wpAny_field he4 rfl (x := .none) rfl (wpAny_pure ?_))
  simp only [if_true]
  refine wpAny_bind (wpAny_rule ?_)
  refine wpAny_bind (wpAny_field he4 rfl (x := old) rfl ?_)
  refine wpAny_bind (wpAny_setField_rec he4 (by simp) fun h5 he5 hs5 => ?_)
  replace hs5 : Heap.SameBut e h4 h5 := hs5
  replace he5 : IsEnum h5 e it ((i : Int) + 1) x := he5
  show wpAny _ _ (Builtin.SmallTypes.ownedTupleHandOut (.ref e) (.ref h1.objs.size) >>= _) _ _ ⟨h5, g, d, tk + 1, os⟩
  refine wpAny_bind ?_
  unfold Builtin.SmallTypes.ownedTupleHandOut
  refine wpAny_bind (wpAny_setField_rec he5 (by simp) fun h6 he6 hs6 => ?_)
  replace hs6 : Heap.SameBut e h5 h6 := hs6
  replace he6 : IsEnumOut h6 e it ((i : Int) + 1) x h1.objs.size := he6
  refine wpAny_setField_rec he6 (by simp) fun h7 he7 hs7 => ?_
  replace hs7 : Heap.SameBut e h6 h7 := hs7
  replace he7 : IsEnumOut h7 e it ((i : Int) + 1) x h1.objs.size := he7
  refine wpAny_bind (wpAny_letGo (wpAny_pure ⟨_, rfl, wpAny_pure (hQ x h1 h7 tk hc he7 ?_ ?_ ?_)⟩))
  · exact hs7.extBut _ _ (Nat.ne_of_gt hel) (hs6.extBut _ _ (Nat.ne_of_gt hel) (hs5.extBut _ _ (Nat.ne_of_gt hel) ht4))
  · rw [hs7.1, hs6.1, hs5.1, hz4]
  · exact fun b o hbe hb => hs7.extBut b o hbe (hs6.extBut b o hbe (hs5.extBut b o hbe (hk4 b o hbe hb)))
theorem enum_end {e it : Addr} {i : Int} {old : Value} {C : Heap → Prop} {Q : Option Value → Shared → Prop} (he : IsEnum s.heap e it i old)
    (hn : ∀ (Q' : Value → Shared → Prop) (E' : Value → Shared → Prop), (∀ h' tk x, C h' → (∃ o, h'.get? x = some o ∧ o.cls = .type "StopIteration") → E' (.ref x) { s with heap := h', toks := tk }) → wpAny (model prog w) A.in1 (Builtin.SmallTypes.nextOf (.ref it)) Q' E' s)
    (hQ : ∀ h' tk, C h' → Q none { s with heap := h', toks := tk }) : wpAny (model prog w) A (pyNext (.ref e)) Q E s := by
  have hT : s.TypeIs (.ref e) "enumerate" := ⟨_, he, rfl⟩
  unfold pyNext
  refine wpAny_bind (wpAny_attempt (wpAny_callSpecial?_slot (name := Str.ofString "__next__") hT F.slot_enumerate_next
    (wpAny_call_entry F.slot_enumerate_next hT F.entry_enumerate_next ?_ (F.args_enumerate_next_1 _))))
  show wpAny _ _ (field (.ref e) 2 >>= _) _ _ _
  refine wpAny_bind (wpAny_field he rfl (x := .ref it) rfl ?_)
  refine wpAny_bind (hn _ _ fun h' tk x hC hx' => ?_)
  obtain ⟨o, ho, hc⟩ := hx'
  refine wpAny_bind (wpAny_isInstance (T := "StopIteration") (b := true) ⟨o, ho, hc⟩ isSubtype_stop ?_)
  exact wpAny_pure (hQ _ _ hC)
/-- nextOf of a zip by its __next__ -/
theorem nextOf_zip {z TI TO : Addr} {Q : Value → Shared → Prop} (hz : ZA s.heap z TI TO) (h : wpAny (model prog w) A.in1 (Builtin.«zip.__next__» ⟨[.ref z], []⟩) (fun fin s' => ∃ v, fin = .done (.ret v) ∧ Q v s') E s) :
    wpAny (model prog w) A (Builtin.SmallTypes.nextOf (.ref z)) Q E s := by
  obtain ⟨f0, fb, fe, hz1⟩ := hz
  have hT : s.TypeIs (.ref z) "zip" := ⟨_, hz1, rfl⟩
  unfold Builtin.SmallTypes.nextOf
  exact wpAny_bind (wpAny_callSpecial?_slot (name := Str.ofString "__next__") hT F.slot_zip_next
    (wpAny_call_entry F.slot_zip_next hT F.entry_zip_next (wpAny_mono h (fun fin s' ⟨v, e, q⟩ => ⟨v, e, wpAny_pure q⟩) fun _ _ x => x) (F.args_zip_next_1 _)))
end
end EZ
end

section
set_option Elab.async false
set_option linter.all false
set_option maxRecDepth 100000
/-! D40: enumerate(zip(text, text)) -/
namespace EZ
open PySem PySem.Spec
theorem iter_za {prog : Program} {w : World} {A : Around} {E : Value → Shared → Prop} {s : Shared} {z TI TO : Addr} {Q : Value → Shared → Prop} (hz : ZA s.heap z TI TO) (h : Q (.ref z) s) : wpAny (model prog w) A (pyIter (.ref z)) Q E s := by
  obtain ⟨f0, fb, fe, hz1⟩ := hz
  have hT : s.TypeIs (.ref z) "zip" := ⟨_, hz1, rfl⟩
  refine wpAny_pyIter_slot hT F.slot_zip_iter (wpAny_call_entry F.slot_zip_iter hT F.entry_zip_iter ?_ (F.args_zip_iter_1 _))
  show wpAny _ _ (ret (.ref z)) _ _ s
  exact wpAny_pure ⟨_, rfl, "zip", _, hT, F.slot_zip_next.lookup, h⟩
set_option maxHeartbeats 1000000 in
theorem meets_enum_zip (z TI TO : Addr) :
    Meets (Builtin.«enumerate.__new__» ⟨[.type "enumerate", .ref z], []⟩) (fun _ R s => ZA s.heap z TI TO ∧
      R (.ok (.ret (.ref s.heap.objs.size))) { s with heap := s.heap.push { cls := .type "enumerate", data := .fields #[.none, .bool false, .ref z, rawInt 0, .none, .none] } }) :=
  .of_wp fun prog w A R s h => by
    obtain ⟨hp, g, d, tk, os⟩ := s
    obtain ⟨hz, h⟩ := h
    have hsub := sub_enumerate
    have q1 : ∀ {A' : Around} {E : Value → Shared → Prop} {Q : Value → Shared → Prop}, Q (.ref z) ⟨hp, g, d, tk, os⟩ → wpAny (model prog w) A' (pyIter (.ref z)) Q E ⟨hp, g, d, tk, os⟩ :=
      fun q => iter_za (s := ⟨hp, g, d, tk, os⟩) hz q
    wp_walk
    refine wpAny_stack_any fun st => wpAny_pure ?_
    split
    · rename_i c _ _ _ _ _
      cases (c == Value.type "enumerate")
      · wp_walk using q1
        exact ⟨_, rfl, h⟩
      · wp_walk using q1
        exact ⟨_, rfl, h⟩
    · wp_walk using q1
      exact ⟨_, rfl, h⟩
theorem call_enum_zip {prog : Program} {w : World} {A : Around} {E : Value → Shared → Prop} {s : Shared} {z TI TO : Addr} {Q : Value → Shared → Prop} (hz : ZA s.heap z TI TO)
    (h : ∀ h', IsEnum h' s.heap.objs.size z 0 .none → h'.objs.size = s.heap.objs.size + 1 → (∀ b o, s.heap.get? b = some o → h'.get? b = some o) → Q (.ref s.heap.objs.size) { s with heap := h' }) :
    wpAny (model prog w) A (call (.type "enumerate") [.ref z]) Q E s := by
  refine callType_new F.called_enumerate (by decide) (F.typeCall_enumerate_1 _) (F.newCall_enumerate_1 _) (fun obj => F.args_object_init_2 obj _) F.entry_enumerate_new
    (meets_enum_zip z TI TO) ⟨hz, ?_⟩
  have he : IsEnum (s.heap.push { cls := .type "enumerate", data := .fields #[.none, .bool false, .ref z, rawInt 0, .none, .none] }) s.heap.objs.size z 0 .none := Heap.get?_push_size _ rfl
  exact ⟨⟨_, he, rfl⟩, h _ he (Heap.size_push ..) fun b o x => Heap.get?_push_of_some _ x⟩
end EZ
namespace L2
open PySem PySem.Spec PyProof.Rows
/-- the signs of two texts side by side, each pair in a new pair with its number -/
def Itzz (a b : Str) : It :=
  ⟨fun i _ => i < a.cps.size ∧ i < b.cps.size,
   fun i H v H' => ∃ T Z c1 c2, v = .ref T ∧ H Z = none ∧ H T = none ∧ T ≠ Z ∧ H' = upd (upd H Z (.tup [.str ⟨#[c1]⟩, .str ⟨#[c2]⟩])) T (.tup [.int (i : Nat), .ref Z]) ∧ a.cps[i]? = some c1 ∧ b.cps[i]? = some c2,
   fun i _ => i ≤ a.cps.size ∧ i ≤ b.cps.size ∧ (i = a.cps.size ∨ i = b.cps.size)⟩
structure EzD (e z TI TO i1 i2 : Addr) : Prop where
  S : ZipSep2 z TI TO i1 i2 [i1] [i2]
  ez : e ≠ z
  eTI : e ≠ TI
  eTO : e ≠ TO
  e1 : e ≠ i1
  e2 : e ≠ i2
theorem turn_ezX {P : Program} {w : World} {K : PySem.W.Frag} {elts : List Expr} {kk : Nat} {tpos : Pos} (a b : Str) (t1 t2 : Tok) {e z TI TO i1 i2 : Addr} (Dj : EzD e z TI TO i1 i2) :
    Turn P w K (.Tuple elts kk tpos) (Itzz a b) [e, z, TI, TO, i1, i2] e (fun i h => (∃ old, IsEnum h e z ((i : Nat) : Int) old) ∧ EZ.ZA h z TI TO ∧ IsTupOf2 h TI (.ref i1) (.ref i2) ∧ (∃ x y, IsTupOf2 h TO x y) ∧ h.IsStrIter i1 (strIterType a) a t1 i ∧ h.IsStrIter i2 (strIterType b) b t2 i) where
  mem := by simp
  obj := fun i h st c hc => by
    obtain ⟨⟨old, he⟩, ⟨f0, fb, fe, hz⟩, hTI, ⟨x, y, hTO⟩, ⟨o1, e1, _, d1⟩, ⟨o2, e2, _, d2⟩⟩ := st
    have e' : c = e ∨ c = z ∨ c = TI ∨ c = TO ∨ c = i1 ∨ c = i2 := by simpa using hc
    rcases e' with q | q | q | q | q | q
    · rw [q]; exact ⟨_, he, fun v q => nomatch q⟩
    · rw [q]; exact ⟨_, hz, fun v q => nomatch q⟩
    · rw [q]; exact ⟨_, hTI, fun v q => nomatch q⟩
    · rw [q]; exact ⟨_, hTO, fun v q => nomatch q⟩
    · rw [q]; exact ⟨o1, e1, fun v q => by rw [d1] at q; cases q⟩
    · rw [q]; exact ⟨o2, e2, fun v q => by rw [d2] at q; cases q⟩
  keep := fun i h h' st k => by
    obtain ⟨⟨old, he⟩, ⟨f0, fb, fe, hz⟩, hTI, ⟨x, y, hTO⟩, ⟨o1, e1, r1⟩, ⟨o2, e2, r2⟩⟩ := st
    exact ⟨⟨old, k e (by simp) _ he⟩, ⟨f0, fb, fe, k z (by simp) _ hz⟩, k TI (by simp) _ hTI, ⟨x, y, k TO (by simp) _ hTO⟩, ⟨o1, k i1 (by simp) _ e1, r1⟩, ⟨o2, k i2 (by simp) _ e2, r2⟩⟩
  item := by
    intro X hP hw hK hc i pins s σ H E I hf st hg
    subst hP hw hK
    obtain ⟨⟨old, he⟩, hz, hTI, ⟨x0, y0, hTO⟩, h1, h2⟩ := st
    obtain ⟨hlt1, hlt2⟩ := hg
    have hel : e < s.heap.objs.size := Heap.lt_size he
    have hzl : z < s.heap.objs.size := by obtain ⟨_, _, _, q⟩ := hz; exact Heap.lt_size q
    have hTIl : TI < s.heap.objs.size := Heap.lt_size hTI
    have hTOl : TO < s.heap.objs.size := Heap.lt_size hTO
    have h1l : i1 < s.heap.objs.size := by obtain ⟨_, q, _⟩ := h1; exact Heap.lt_size q
    have h2l : i2 < s.heap.objs.size := by obtain ⟨_, q, _⟩ := h2; exact Heap.lt_size q
    have hlt : ∀ c, c ∈ [e, z, TI, TO, i1, i2] → c < s.heap.objs.size := fun c hc => by
      have e' : c = e ∨ c = z ∨ c = TI ∨ c = TO ∨ c = i1 ∨ c = i2 := by simpa using hc
      rcases e' with q | q | q | q | q | q <;> (rw [q]; assumption)
    have D1 := Draws.text (prog := X.prog) (w := X.w) (A := X.A.in1.in1) (I.ok.hd hc) i1 a t1
    have D2 := Draws.text (prog := X.prog) (w := X.w) (A := X.A.in1.in1) (I.ok.hd hc) i2 b t2
    refine EZ.enum_item (C := fun x hh => ∃ c1 c2 u1 u2, x = .ref s.heap.objs.size ∧ a.cps[i]? = some c1 ∧ b.cps[i]? = some c2 ∧ EZ.ZA hh z TI TO ∧ (∃ x y, IsTupOf2 hh TO x y) ∧ hh.IsStrIter i1 (strIterType a) a t1 (i + 1) ∧ hh.IsStrIter i2 (strIterType b) b t2 (i + 1) ∧
        IsTupOf2 hh s.heap.objs.size (.str ⟨#[c1]⟩ u1) (.str ⟨#[c2]⟩ u2) ∧ hh.objs.size = s.heap.objs.size + 1 ∧ (∀ c o, c ≠ z → c ≠ TO → c ≠ i1 → c ≠ i2 → s.heap.get? c = some o → hh.get? c = some o)) Dj.ez he
      (fun Q' E' hq => EZ.nextOf_zip hz (EZ.zip_item Dj.S D1 D2 hz hTI hTO h1 h2 hlt1 hlt2 fun x1 x2 hh tk p1 p2 zz tt s1 s2 pp sz kk => ?_)) fun x hh h' tk hC ho hT hsz hk => ?_
    · obtain ⟨c1, u1, a1, rfl⟩ := p1
      obtain ⟨c2, u2, a2, rfl⟩ := p2
      exact hq _ hh tk ⟨c1, c2, u1, u2, rfl, a1, a2, zz, tt, s1, s2, pp, sz, kk⟩ (kk _ _ Dj.ez Dj.eTO Dj.e1 Dj.e2 he)
    · obtain ⟨c1, c2, u1, u2, rfl, a1, a2, ⟨f0, fb, fe, zz⟩, ⟨x', y', tt⟩, ⟨o1, oe1, r1⟩, ⟨o2, oe2, r2⟩, pp, sz, kk⟩ := hC
      refine ⟨_, rfl, wpAny_letOwnedTupleGo_enum (s := { s with heap := h', toks := tk + 1 }) ho fun h'' he' sb => ?_⟩
      replace sb : Heap.SameBut e h' h'' := sb
      have up : ∀ c o, c ≠ e → hh.get? c = some o → h''.get? c = some o := fun c o ce q => (sb.2 c ce).trans (hk c o ce q)
      have I1 : Inv X pins σ (upd H s.heap.objs.size (.tup [.str ⟨#[c1]⟩, .str ⟨#[c2]⟩])) { s with heap := hh, toks := tk } :=
        I.turnedNew (ch := [e, z, TI, TO, i1, i2]) (fun c ob hb q => kk c ob (fun z => hb (by simp [z])) (fun z => hb (by simp [z])) (fun z => hb (by simp [z])) (fun z => hb (by simp [z])) q) hf (Nat.le_refl _)
          ⟨by show 2 ≤ sizeLine; decide, [.str ⟨#[c1]⟩ u1, .str ⟨#[c2]⟩ u2], .cons ⟨_, rfl⟩ (.cons ⟨_, rfl⟩ .nil), ⟨_, pp, rfl, _, rfl⟩⟩
      have hT2 : h''.get? hh.objs.size = some { cls := .type "tuple", data := .seq #[.int i tk, .ref s.heap.objs.size] } := (sb.2 _ (Nat.ne_of_gt (show e < hh.objs.size by rw [sz]; exact Nat.lt_succ_of_lt hel))).trans hT
      have hf1 : ∀ c ∈ [e, z, TI, TO, i1, i2], FpOk X pins (upd H s.heap.objs.size (.tup [.str ⟨#[c1]⟩, .str ⟨#[c2]⟩])) c := fun c hc => ⟨by rw [upd_ne (Nat.ne_of_lt (hlt c hc))]; exact (hf c hc).1, (hf c hc).2⟩
      have I2 : Inv X pins σ (upd (upd H s.heap.objs.size (.tup [.str ⟨#[c1]⟩, .str ⟨#[c2]⟩])) hh.objs.size (.tup [.int (i : Nat), .ref s.heap.objs.size])) { s with heap := h'', toks := tk + 1 } :=
        Inv.turnedNew (s := { s with heap := hh, toks := tk }) (t' := tk + 1) I1 (ch := [e, z, TI, TO, i1, i2]) (fun c ob hb q => up c ob (fun z => hb (by simp [z])) q) hf1 (Nat.le_refl _)
          ⟨by show 2 ≤ sizeLine; decide, [.int i tk, .ref s.heap.objs.size], .cons ⟨_, rfl⟩ (.cons rfl .nil), ⟨_, hT2, rfl, _, rfl⟩⟩
      refine ⟨.ref hh.objs.size, _, I2, rfl, ⟨_, _, c1, c2, rfl, I.hok.fresh (Nat.le_refl _), I.hok.fresh (by rw [sz]; exact Nat.le_succ _), by rw [sz]; exact Nat.succ_ne_self _, rfl, a1, a2⟩,
        ⟨⟨.ref s.heap.objs.size, ?_⟩, ⟨f0, fb, fe, up _ _ (Ne.symm Dj.ez) zz⟩, up _ _ (Ne.symm Dj.eTI) (kk _ _ Dj.S.TIz Dj.S.TITO Dj.S.TIi1 Dj.S.TIi2 hTI), ⟨x', y', up _ _ (Ne.symm Dj.eTO) tt⟩, ⟨o1, up _ _ (Ne.symm Dj.e1) oe1, r1⟩, ⟨o2, up _ _ (Ne.symm Dj.e2) oe2, r2⟩⟩, fun c hc => ?_⟩
      · have e1 : ((i + 1 : Nat) : Int) = (i : Int) + 1 := by omega
        rw [e1]; exact he'
      · have q := hlt c hc
        rw [upd_ne (Nat.ne_of_lt (show c < hh.objs.size by rw [sz]; exact Nat.lt_succ_of_lt q)), upd_ne (Nat.ne_of_lt q)]
        exact (hf c hc).1
  done := by
    intro X hP hw hK hc i pins s σ H E I hf st hg
    subst hP hw hK
    obtain ⟨⟨old, he⟩, hz, hTI, ⟨x0, y0, hTO⟩, h1, h2⟩ := st
    obtain ⟨l1, l2, l3⟩ := hg
    have D1 := Draws.text (prog := X.prog) (w := X.w) (A := X.A.in1.in1) (I.ok.hd hc) i1 a t1
    have D2 := Draws.text (prog := X.prog) (w := X.w) (A := X.A.in1.in1) (I.ok.hd hc) i2 b t2
    refine EZ.enum_end (C := fun hh => ∀ c o, c ≠ z → c ≠ TO → c ≠ i1 → c ≠ i2 → s.heap.get? c = some o → hh.get? c = some o) he
      (fun Q' E' hq => EZ.nextOf_zip hz (EZ.zip_end Dj.S D1 D2 hz hTI hTO h1 h2 l1 l2 l3 fun hh tk x kk xx => hq hh tk x kk xx)) fun hh tk hC => ?_
    exact ⟨rfl, I.turnedL (t' := tk) (ch := [e, z, TI, TO, i1, i2]) (fun c o hb q => hC c o (fun z => hb (by simp [z])) (fun z => hb (by simp [z])) (fun z => hb (by simp [z])) (fun z => hb (by simp [z])) q) hf⟩
  self := fun A i s Q E st h => let ⟨⟨_, he⟩, _⟩ := st; wpAny_pyIter_enum he h

def iEnumZ (ta : TA) : TI := fun σ H R => ta σ H fun vs H1 => ∃ a b, vs = [.str a, .str b] ∧ R (Itzz a b) H1
theorem ez_apart (N : Nat) : EzD (N + 5) (N + 4) (N + 2) (N + 3) N (N + 1) where
  S := zip_sep2 (fp1 := []) (fp2 := []) (fun _ h => nomatch h) (fun _ h => nomatch h)
  ez := show (N + 5 : Nat) ≠ N + 4 by omega
  eTI := show (N + 5 : Nat) ≠ N + 2 by omega
  eTO := show (N + 5 : Nat) ≠ N + 3 by omega
  e1 := show (N + 5 : Nat) ≠ N by omega
  e2 := show (N + 5 : Nat) ≠ N + 1 by omega
theorem pi_enumZ {X : Cx} {x y : Expr} {ta : TA} {p p2 pos pos2 tpos : Pos} {elts : List Expr} {kk : Nat} (hg : Gl X "enumerate") (hm : X.mg "enumerate" = none) (hg2 : Gl X "zip") (hm2 : X.mg "zip" = none) (ha : PA X [x, y] ta)
    (hs : starEach [x, y] X.env = (false, eval x X.env) :: starEach [y] X.env := by rfl) (hpl : (backTo pos2 (starEach [y] X.env)).any (·.1) = false := by rfl) :
    PI X (.Tuple elts kk tpos) (.Call (.Name "enumerate" p) [.Call (.Name "zip" p2) [x, y] [] pos2] [] pos) (iEnumZ ta) := by
  refine ⟨fun pins s σ H R I h => ?_⟩
  refine Call_ (ld_blt I hg hm boot_enumerate (PyProof.Rows.callWith_type1 (spliced_more ?_ rfl) rfl rfl))
  refine Call_ (ld_blt I hg2 hm2 PyProof.Rows.boot_zip (PyProof.Rows.callWith_type1 (thn (ha.run pos2 pins s σ H _ I h) fun us s1 ⟨vs, H1, I1, r1, q1⟩ => ?_) hs hpl))
  obtain ⟨a, b, ex, q⟩ := q1
  subst ex
  cases r1 with
  | cons r rr =>
    cases rr with
    | cons r' rr =>
      cases rr
      obtain ⟨t1, rfl⟩ := r
      obtain ⟨t2, rfl⟩ := r'
      refine zip_begins2 (begins_text a t1) (begins_text b t2) trivial trivial fun h' hz hTI hTO g1 g2 hsz hk => ?_
      refine spliced_none ?_
      have hz2 : EZ.ZA h' (s1.heap.objs.size + 4) (s1.heap.objs.size + 2) (s1.heap.objs.size + 3) := ⟨_, _, .inl rfl, hz⟩
      refine EZ.call_enum_zip (s := { s1 with heap := h' }) hz2 fun h'' he hsz2 hk2 => wpAny_pyIter_enum he ?_
      replace he : IsEnum h'' (s1.heap.objs.size + 5) (s1.heap.objs.size + 4) 0 .none := by rw [← hsz]; exact he
      have I2 : Inv X pins σ H1 { s1 with heap := h'' } := I1.kept (t' := s1.toks) fun c o e => hk2 c o (hk c o e)
      have ad : ({ s1 with heap := h' } : Shared).heap.objs.size = s1.heap.objs.size + 5 := hsz
      refine ⟨s1.heap.objs.size + 5, [s1.heap.objs.size + 5, s1.heap.objs.size + 4, s1.heap.objs.size + 2, s1.heap.objs.size + 3, s1.heap.objs.size, s1.heap.objs.size + 1], _, _, H1, by rw [ad], I2, turn_ezX a b t1 t2 (ez_apart s1.heap.objs.size),
        ⟨⟨.none, he⟩, ⟨_, _, .inl rfl, hk2 _ _ hz⟩, hk2 _ _ hTI, ⟨_, _, hk2 _ _ hTO⟩, ⟨_, hk2 _ _ g1, rfl, rfl⟩, ⟨_, hk2 _ _ g2, rfl, rfl⟩⟩, fun c hcm => ?_, q⟩
      have hle : s1.heap.objs.size ≤ c := by
        simp only [List.mem_cons, List.not_mem_nil, or_false] at hcm
        rcases hcm with z | z | z | z | z | z
        · rw [z]; exact Nat.le_add_right _ _
        · rw [z]; exact Nat.le_add_right _ _
        · rw [z]; exact Nat.le_add_right _ _
        · rw [z]; exact Nat.le_add_right _ _
        · rw [z]; exact Nat.le_refl _
        · rw [z]; exact Nat.le_add_right _ _
      exact I1.fpOk hle (I1.hok.fresh hle)
end L2
namespace DL
open PySem PySem.Spec PyProof.Rows L2

def pairsD (a b : Str) : List D := List.zipWith (fun x y => D.tup [x, y]) (chars a) (chars b)
theorem wk_ez {T : Tab} {ρ : List Addr} {H : Hp} {a b : Str} : WkD T (Itzz a b) (enumD (pairsD a b)) ρ H where
  goes := fun i ρ1 H1 l hi => by
    rw [enumD_len] at hi
    simp only [pairsD, List.length_zipWith, chars, List.length_map, Array.length_toList] at hi
    show i < a.cps.size ∧ i < b.cps.size
    omega
  stops := fun ρ1 H1 l => by
    rw [enumD_len]
    simp only [pairsD, List.length_zipWith, chars, List.length_map, Array.length_toList]
    show _ ≤ a.cps.size ∧ _ ≤ b.cps.size ∧ (_ ∨ _)
    omega
  yields := fun i ρ1 m H1 x H' l st hi y => by
    obtain ⟨P, Z, c1, c2, rfl, e1, e2, e3, rfl, a1, a2⟩ := y
    have l1 : Le ρ1 H1 ρ1 (upd H1 Z (.tup [.str ⟨#[c1]⟩, .str ⟨#[c2]⟩])) := .new e1
    have e4 : (upd H1 Z (.tup [.str ⟨#[c1]⟩, .str ⟨#[c2]⟩])) P = none := by rw [upd_ne e3]; exact e2
    have l2 : Le ρ1 (upd H1 Z (.tup [.str ⟨#[c1]⟩, .str ⟨#[c2]⟩])) ρ1 (upd (upd H1 Z (.tup [.str ⟨#[c1]⟩, .str ⟨#[c2]⟩])) P (.tup [.int (i : Nat), .ref Z])) := .new e4
    have st1 := st.new (o := .tup [.str ⟨#[c1]⟩, .str ⟨#[c2]⟩]) e1
    have r1 : Is T ρ1 (upd H1 Z (.tup [.str ⟨#[c1]⟩, .str ⟨#[c2]⟩])) (.tup [.str ⟨#[c1]⟩, .str ⟨#[c2]⟩]) (.ref Z) := .tup upd_same (st.free e1) (.cons (.str _) (.cons (.str _) .nil))
    refine ⟨.tup [.int (i : Nat), .tup [.str ⟨#[c1]⟩, .str ⟨#[c2]⟩]], enumD_get ?_, l1.trans l2, st1.new e4, .tup upd_same (st1.free e4) (.cons (.int _) (.cons (r1.le l2) .nil))⟩
    have b1 : (chars a)[i]? = some (.str ⟨#[c1]⟩) := by unfold chars; rw [List.getElem?_map, Array.getElem?_toList, a1]; rfl
    have b2 : (chars b)[i]? = some (.str ⟨#[c2]⟩) := by unfold chars; rw [List.getElem?_map, Array.getElem?_toList, a2]; rfl
    simp [pairsD, List.getElem?_zipWith, b1, b2]
def enumZF : EL → EL := fun f μ m => (f μ m).bind fun ds m1 => match ds with
  | [.str a, .str b] => .ok (enumD (pairsD a b)) m1
  | _ => .bad
theorem pid_enumZ {X : Cx} {T : Tab} {W : WX} {x y : Expr} {f : EL} {p p2 pos pos2 tpos : Pos} {elts : List Expr} {kk : Nat} (hg : Gl X "enumerate") (hm : X.mg "enumerate" = none) (hg2 : Gl X "zip") (hm2 : X.mg "zip" = none) (ha : PA X [x, y] (TL T W f))
    (hs : starEach [x, y] X.env = (false, eval x X.env) :: starEach [y] X.env := by rfl) (hpl : (backTo pos2 (starEach [y] X.env)).any (·.1) = false := by rfl) :
    PI X (.Tuple elts kk tpos) (.Call (.Name "enumerate" p) [.Call (.Name "zip" p2) [x, y] [] pos2] [] pos) (TIt T W (enumZF f)) :=
  pi_imp (pi_enumZ hg hm hg2 hm2 ha hs hpl) fun σ H R ⟨ρ, m, μ, st, ev, h⟩ => by
    obtain ⟨ρ0, m0, μ0, s0, e0, h0⟩ := TL.bind st ev h
    refine ⟨ρ0, m0, μ0, s0, e0, h0.mono (fun vs H1 ⟨ρ1, m1, ds, l1, st1, ev1, r1, h1⟩ => ?_) fun _ _ _ z => z⟩
    split at h1
    · cases r1 with
      | cons ra rr =>
        cases rr with
        | cons rb rr =>
          cases rr
          cases ra
          cases rb
          exact ⟨_, _, rfl, h1 ρ1 H1 _ (.refl _ _) st1 wk_ez⟩
    · exact h1.elim
end DL
end

section
set_option Elab.async false
set_option linter.all false
set_option maxRecDepth 100000
/-! D41: text[::-1]; max of a list of ints -/
namespace L2
open PySem PySem.Spec PyProof.Rows
def revS (z : Str) : Str := ⟨z.cps.toList.reverse.toArray⟩
theorem range_back (n : Nat) : Builtin.Str.strSliceIndices none none (-1) n = (List.range n).map fun k => n - 1 - k := by
  have h : ∀ z : Int, (if z - 1 > -1 then (z - 1 - -1 - -1 - 1) / (- -1) else 0) = if z > 0 then z else 0 := fun z => by
    rw [show (- -1 : Int) = 1 from rfl]
    split <;> split <;> omega
  have e : Builtin.Str.strSliceIndices none none (-1) n = (List.range ((if (n : Int) - 1 > -1 then ((n : Int) - 1 - -1 - -1 - 1) / (- -1) else 0 : Int)).toNat).map fun (k : Nat) => ((n : Int) - 1 + -1 * (k : Int)).toNat := rfl
  rw [e, h]
  have e2 : (if (n : Int) > 0 then (n : Int) else 0).toNat = n := by split <;> omega
  rw [e2]
  refine List.map_congr_left fun k hk => ?_
  have := List.mem_range.mp hk
  omega
theorem picks (xs : Array Nat) : ∀ l : List Nat, (∀ k ∈ l, k < xs.size) → l.filterMap (xs[·]?) = l.map fun k => xs.toList.getD k 0
  | [], _ => rfl
  | k :: l, h => by
    have hk := h k (List.mem_cons_self ..)
    rw [List.filterMap_cons, List.map_cons, ← picks xs l fun j hj => h j (List.mem_cons_of_mem _ hj)]
    simp [hk]
theorem pick_back (z : Str) : (Builtin.Str.strSliceIndices none none (-1) z.length).filterMap (z.cps[·]?) = z.cps.toList.reverse := by
  rw [range_back]
  apply List.ext_getElem?
  intro i
  have hf : ((List.range z.length).map fun k => z.length - 1 - k).filterMap (z.cps[·]?) = (List.range z.length).map fun k => z.cps.toList.getD (z.length - 1 - k) 0 := by
    rw [picks z.cps _ fun j hj => ?_, List.map_map]
    · rfl
    · obtain ⟨k, hk, rfl⟩ := List.mem_map.mp hj
      have hk : k < z.cps.size := List.mem_range.mp hk
      show z.cps.size - 1 - k < z.cps.size
      omega
  rw [hf]
  by_cases hi : i < z.cps.size
  · rw [List.getElem?_map, List.getElem?_range (show i < z.length from hi), List.getElem?_reverse (by simpa using hi)]
    simp only [Option.map_some, Array.length_toList]
    show some (z.cps.toList.getD (z.cps.size - 1 - i) 0) = _
    have : z.cps.size - 1 - i < z.cps.size := by omega
    simp [this]
  · rw [List.getElem?_eq_none (by simpa [Str.length] using hi), List.getElem?_eq_none (by simpa using hi)]
def tRevS (te : TE) : TE := fun σ H Q => te σ H fun x H1 => ∃ z, x = .str z ∧ z.length ≤ sizeLine ∧ Q (.str (revS z)) H1
theorem pe_revS {X : Cx} {e : Expr} {te : TE} {k : Nat} {p1 p2 p3 pos : Pos} (he : PE X e te) : PE X (.Subscript e (.Slice none none (some (.UnaryOp .USub (.Constant (.int 1) k p1) p2)) p3) pos) (tRevS te) := by
  refine ⟨fun pins s σ H Q I h => ?_⟩
  refine Subscript_ (thn (he.run pins s σ H _ I h) fun v s1 ⟨x, H1, I1, r1, q1⟩ => ?_)
  obtain ⟨z, ex, hz, q⟩ := q1
  subst ex
  obtain ⟨t, rfl⟩ := r1
  have hst : PO X (some (.UnaryOp .USub (.Constant (.int 1) k p1) p2)) (tPart (tUn (rU fun i => .int (-i)) (tC (.int 1)))) := po_some (pe_un un_neg pe_int)
  refine wpAny_Slice (thn (po_none.run pins s1 σ H1 (fun o H2 => o = none ∧ H2 = H1) I1 ⟨rfl, rfl⟩) fun vl s2 ⟨l, H2, I2, pl, el, e2⟩ => ?_)
  subst el e2
  refine thn (po_none.run pins s2 σ H2 (fun o H3 => o = none ∧ H3 = H2) I2 ⟨rfl, rfl⟩) fun vu s3 ⟨u, H3, I3, pu, eu, e3⟩ => ?_
  subst eu e3
  refine thn (hst.run pins s3 σ H3 (fun o H4 => o = some (-1) ∧ H4 = H3) I3 ⟨1, rfl, -1, rfl, rfl, rfl⟩) fun vs s4 ⟨o, H4, I4, ps, eo, e4⟩ => ?_
  subst eo e4
  have I5 : Inv X pins σ H4 { s4 with heap := s4.heap.push { cls := .type "slice", data := .fields #[vl, vu, vs] } } := I4.kept (t' := s4.toks) fun b ob q => Heap.get?_push_of_some _ q
  show wpAny (model X.prog X.w) X.A (subscriptTail e (.Slice none none (some (.UnaryOp .USub (.Constant (.int 1) k p1) p2)) p3) (.str z t) (.ref s4.heap.objs.size)) (EP X pins σ Q) X.xe { s4 with heap := s4.heap.push { cls := .type "slice", data := .fields #[vl, vu, vs] } }
  refine tail_any (ops := [.str z t, .ref s4.heap.objs.size]) (typeIs_str _ _ _) F.slot_str_getitem.lookup ?_ (by with_unfolding_all rfl)
  obtain ⟨l', rfl, el⟩ := IsPart.raw pl
  obtain ⟨u', rfl, eu⟩ := IsPart.raw pu
  obtain ⟨w', rfl, ew⟩ := IsPart.raw ps
  refine wpAny_getItem_str_slice (l := l') (u := u') (st := w') (Heap.IsSliceOf.new _ _ _ _) (by rw [ew]; rfl) ?_
  have made : sliceMade z t l' u' w' = .str (revS z) := by
    unfold sliceMade slicePicked
    rw [el, eu, ew]
    show (if ((-1 : Int) == 1 && _) = true then _ else Made.str ⟨((Builtin.Str.strSliceIndices none none (-1) z.length).filterMap (z.cps[·]?)).toArray⟩) = _
    rw [pick_back]
    rfl
  rw [made]
  have hl : (revS z).length ≤ sizeLine := by
    have : (revS z).length = z.length := by simp [revS, Str.length]
    rw [this]; exact hz
  exact ⟨hl, .str _, _, I5.tok _, ⟨_, rfl⟩, q⟩
end L2
namespace DL
open PySem PySem.Spec PyProof.Rows L2
def revF (x : D) (m : S) : R D := match x with
  | .str z => if z.length ≤ cap then .ok (.str (revS z)) m else .bad
  | _ => .bad
def revE (f : E1) : E1 := fun μ m => (f μ m).bind fun d m1 => revF d m1
theorem pd_revS {X : Cx} {T : Tab} {W : WX} {e : Expr} {f : E1} {k : Nat} {p1 p2 p3 pos : Pos} (he : PE X e (TD T W f)) : PE X (.Subscript e (.Slice none none (some (.UnaryOp .USub (.Constant (.int 1) k p1) p2)) p3) pos) (TD T W (revE f)) :=
  pe_imp (pe_revS he) fun σ H Q ⟨ρ, m, μ, st, ev, h⟩ => by
    obtain ⟨ρ0, m0, μ0, s0, e0, h0⟩ := TD.bind (g := fun d m1 => revF d m1) st ev h
    refine ⟨ρ0, m0, μ0, s0, e0, h0.mono (fun v H1 ⟨ρ1, m1, d, l1, st1, ev1, r1, h1⟩ => ?_) fun _ _ _ z => z⟩
    unfold revF at h1
    split at h1
    · cases r1
      split at h1
      · rename_i hz
        exact ⟨_, rfl, cap_line hz, h1 ρ1 H1 _ (.refl _ _) st1 (.str _)⟩
      · exact h1.elim
    · exact h1.elim
end DL
end

section
open PySem PySem.Spec PyProof.Rows L2
set_option Elab.async false
set_option linter.all false
set_option maxRecDepth 100000
/-! D42: min, max of a list of whole numbers -/
namespace DL
def minI (p : Int) (ps : List Int) : Int := ps.foldl (fun a y => if decide (y < a) = true then y else a) p
def maxI (p : Int) (ps : List Int) : Int := ps.foldl (fun a y => if decide (a < y) = true then y else a) p
theorem minD_int : ∀ (ps : List Int) (p : Int), PySem.W.minD (.int p) (ps.map .int) = .int (minI p ps)
  | [], p => rfl
  | q :: ps, p => by
    have := minD_int ps (if decide (q < p) = true then q else p)
    unfold PySem.W.minD minI at this ⊢
    rw [List.map_cons, List.foldl_cons, List.foldl_cons, PySem.W.dataLt_int, ← this]
    split <;> rfl
theorem maxD_int : ∀ (ps : List Int) (p : Int), PySem.W.maxD (.int p) (ps.map .int) = .int (maxI p ps)
  | [], p => rfl
  | q :: ps, p => by
    have := maxD_int ps (if decide (p < q) = true then q else p)
    unfold PySem.W.maxD maxI at this ⊢
    rw [List.map_cons, List.foldl_cons, List.foldl_cons, PySem.W.dataLt_int, ← this]
    split <;> rfl
def intsL : List D → Option (List Int)
  | [] => some []
  | .int i :: ds => (intsL ds).map (i :: ·)
  | _ :: _ => none
theorem intsL_some : ∀ {ds : List D} {ps : List Int}, intsL ds = some ps → ds = ps.map .int
  | [], ps, h => by simp [intsL] at h; subst h; rfl
  | d :: ds, ps, h => by
    cases d with
    | int i =>
      obtain ⟨qs, e, rfl⟩ := Option.map_eq_some_iff.mp h
      rw [intsL_some e]; rfl
    | _ => simp [intsL] at h
theorem intsL_map (ps : List Int) : intsL (ps.map D.int) = some ps := by
  induction ps with
  | nil => rfl
  | cons p ps ih => simp only [List.map_cons, intsL, ih]; rfl
theorem pys_ints (ps : List Int) : pys (ps.map D.int) = some (ps.map .int) := by
  induction ps with
  | nil => simp [pys]
  | cons p ps ih => simp only [List.map_cons, pys, ih, py]; rfl
theorem alike_ints (ps : List Int) : PySem.W.AlikeAll (ps.map PyData.int) := by
  refine ⟨fun x hx y hy => ?_, fun x hx => ?_⟩
  · obtain ⟨p, _, rfl⟩ := List.mem_map.mp hx
    obtain ⟨q, _, rfl⟩ := List.mem_map.mp hy
    simp [PySem.W.alike]
  · obtain ⟨p, _, rfl⟩ := List.mem_map.mp hx
    simp
theorem depth_ints (ps : List Int) : PyData.depthAll (ps.map PyData.int) ≤ 40 := by
  induction ps with
  | nil => simp [PyData.depthAll]
  | cons p ps ih =>
    simp only [List.map_cons, PyData.depthAll, PyData.depth] at ih ⊢
    omega
def bestIF (f : Int → List Int → Int) : CF := fun ds m => match ds with
  | [d] => match elems m d with
    | some xs => match intsL xs with
      | some (p :: ps) => .ok (.int (f p ps)) m
      | _ => .bad
    | none => .bad
  | _ => .bad
theorem cd_bestI {K : PySem.W.Frag} {g : PyData → List PyData → PyData} {f : Int → List Int → Int} (hg : ∀ ps p, g (.int p) (ps.map .int) = .int (f p ps)) : CallD (rBestD K g) (bestIF f) := by
  intro T ρ m H ds vs Q E st r h
  unfold bestIF at h
  split at h
  · cases r with
    | cons r1 r2 =>
      cases r2
      split at h
      · rename_i xs e
        split at h
        · rename_i p ps e2
          obtain ⟨a, ys, rfl, hr, rr⟩ := elems_is st r1 e
          have hx := intsL_some e2
          subst hx
          refine ⟨a, ys, .int p, ps.map .int, rfl, .inl hr, Iss.dp rr (pys_ints (p :: ps)), alike_ints (p :: ps), depth_ints (p :: ps), fun i v hi hp => ?_⟩
          rw [hg] at hp
          have hp2 : (p :: ps)[i]? = some (f p ps) := by
            have : ((p :: ps).map PyData.int)[i]? = some (PyData.int (f p ps)) := hp
            rw [List.getElem?_map] at this
            cases q : (p :: ps)[i]? with
            | none => rw [q] at this; simp at this
            | some z => rw [q] at this; simp at this; rw [this]
          have hd : ((p :: ps).map D.int)[i]? = some (D.int (f p ps)) := by rw [List.getElem?_map, hp2]; rfl
          obtain ⟨v', hv, hI⟩ := rr.get hd
          rw [hi] at hv
          cases hv
          exact h ρ H _ (.refl _ _) st hI
        · exact h.elim
      · exact h.elim
  · exact h.elim
section
variable {X : Cx} {T : Tab} {W : WX} {pos p : Pos}
theorem pd_minI {k : Nat} (rg : Rg k X.A) {e : Expr} {f : EL} (hc : X.calm = true) (hg : Gl X "min") (hm : X.mg "min" = none) (ha : PA X [e] (TL T W f)) (he : starEach [e] X.env = [(false, eval e X.env)] := by rfl) : PE X (.Call (.Name "min" p) [e] [] pos) (TD T W (callE (bestIF minI) f)) :=
  pd_callB (cd_bestI minD_int) (cr_minD hc (units50 rg)) hg hm Boot.«min» ha (by decide) (by decide) he rfl
theorem pd_maxI {k : Nat} (rg : Rg k X.A) {e : Expr} {f : EL} (hc : X.calm = true) (hg : Gl X "max") (hm : X.mg "max" = none) (ha : PA X [e] (TL T W f)) (he : starEach [e] X.env = [(false, eval e X.env)] := by rfl) : PE X (.Call (.Name "max" p) [e] [] pos) (TD T W (callE (bestIF maxI) f)) :=
  pd_callB (cd_bestI maxD_int) (cr_maxD hc (units50 rg)) hg hm Boot.«max» ha (by decide) (by decide) he rfl
end
end DL
end

section
open PySem PySem.Spec PyProof.Rows L2
set_option Elab.async false
set_option linter.all false
set_option maxRecDepth 100000
set_option maxHeartbeats 4000000
/-! D43: for with else -/
namespace DL
section
variable {X : Cx} {T : Tab} {W : WX} {pos : Pos}
def loopE (g : GD) (b u : ST) : List D → ST
  | [], μ, m => u μ m
  | x :: xs, μ, m => match g x μ with
    | none => .bad
    | some μ1 => match b μ1 m with
      | .nx μ2 m2 => loopE g b u xs μ2 m2
      | .ct μ2 m2 => loopE g b u xs μ2 m2
      | .bk μ2 m2 => .nx μ2 m2
      | .ret d m2 => .ret d m2
      | .err c fs μ2 m2 => .err c fs μ2 m2
      | .bad => .bad
def forE (f : EL) (g : GD) (b u : ST) : ST := liftL f (loopE g b u)
theorem sd_forE {tg iter : Expr} {body : List Stmt} {f : EL} {g : GD} {sl : List Nat} {b u : ST} {orelse : List Stmt} (hp : PassesOwn (model X.prog X.w) X.A X.env X.xe) (hc : X.calm = true) (hi : PI X tg iter (TIt T W f)) (hg : PG X tg (TGD T g sl)) (hb : PSs X body (TDS T W b)) (ho : PSs X orelse (TDS T W u))
    (hs : ∀ x, foldedSetIterable iter X.env x = pure x := by intro _; rfl) : PS X (.For tg iter body orelse pos) (TDS T W (forE f g b u)) :=
  ps_imp (ps_forE hp hc hi hg hb ho hs) fun Dn σ H ⟨ρ, m, μ, st, ev, h⟩ => by
    refine ⟨ρ, m, μ, st, ev, ?_⟩
    unfold forE liftL at h
    cases e : f μ m with
    | err c fs m1 =>
      rw [e] at h
      exact fun ρ1 H1 cls d l s r => h ρ1 H1 σ cls d l s (ev.le l) r
    | bad => rw [e] at h; exact h
    | ok ds m1 =>
      rw [e] at h
      intro ρ1 H1 J l1 st1 wk
      have h := PoS.le h l1
      refine ⟨fun i k σ' H' => k = ds.length - i ∧ i ≤ ds.length ∧ ∃ ρ' m' μ', Le ρ1 H1 ρ' H' ∧ StOk T ρ' m' H' ∧ EnvOk T ρ' H' μ' σ' ∧ PoS T ρ' H' (loopE g b u (ds.drop i) μ' m') Dn W, ⟨ds.length, by simp, by simp, ρ1, m1, μ, .refl _ _, st1, ev.le l1, by simpa using h⟩, ?_⟩
      rintro i k σ' H' ⟨rfl, hi, ρ', m', μ', l', st', ev', h'⟩
      by_cases hlt : i < ds.length
      · refine .inr ⟨wk.goes i ρ' H' l' hlt, fun σ2 H2 => ∃ ρ2 m2 μ2, Le ρ1 H1 ρ2 H2 ∧ StOk T ρ2 m2 H2 ∧ EnvOk T ρ2 H2 μ2 σ2 ∧ PoS T ρ2 H2 (loopE g b u (ds.drop (i + 1)) μ2 m2) Dn W, fun σ2 H2 z => ⟨ds.length - (i + 1), by omega, rfl, by omega, z⟩, fun x H2 y => ?_⟩
        obtain ⟨d, ed, l2, st2, r2⟩ := wk.yields i ρ' m' H' x H2 l' st' hlt y
        have eds : ds.drop i = d :: ds.drop (i + 1) := by
          rw [List.drop_eq_getElem_cons hlt]
          rw [List.getElem?_eq_getElem hlt] at ed
          rw [Option.some.inj ed]
        rw [eds] at h'
        unfold loopE at h'
        cases eg : g d μ' with
        | none => rw [eg] at h'; exact h'.elim
        | some μ1 =>
          rw [eg] at h'
          dsimp only at h'
          refine ⟨ρ', m', μ', d, μ1, st2, ev'.le l2, r2, eg, fun σ1 ev1 _ _ => ⟨ρ', m', μ1, st2, ev1, ?_⟩⟩
          have h2 := PoS.le h' l2
          have l3 := l'.trans l2
          cases eb : b μ1 m' with
          | nx μ2 m2 => rw [eb] at h2; exact fun ρ3 H3 σ3 l4 st3 ev3 => ⟨ρ3, m2, μ2, l3.trans l4, st3, ev3, PoS.le h2 l4⟩
          | ct μ2 m2 => rw [eb] at h2; exact fun ρ3 H3 σ3 l4 st3 ev3 => ⟨ρ3, m2, μ2, l3.trans l4, st3, ev3, PoS.le h2 l4⟩
          | bk μ2 m2 => rw [eb] at h2; exact h2
          | ret d2 m2 => rw [eb] at h2; exact h2
          | err c fs μ2 m2 => rw [eb] at h2; exact h2
          | bad => rw [eb] at h2; exact h2
      · have e1 : i = ds.length := by omega
        subst e1
        refine .inl ⟨wk.stops ρ' H' l', ?_⟩
        rw [List.drop_length] at h'
        exact ⟨ρ', m', μ', st', ev', h'⟩
end
end DL
end

section
open PySem PySem.Spec PyProof.Rows L2
set_option Elab.async false
set_option linter.all false
set_option maxRecDepth 100000
set_option maxHeartbeats 4000000
/-! D45: what a def returns, freed of the def's own store -/
namespace DL
def thawL (g : D → Option D) : List D → Option (List D)
  | [] => some []
  | x :: xs => match g x, thawL g xs with
    | some y, some ys => some (y :: ys)
    | _, _ => none
/-- a value without the places from k on -/
def thaw : Nat → Nat → S → D → Option D
  | 0, k, _, d => if cl k d = true then some d else none
  | f + 1, k, m, d => if cl k d = true then some d else match d with
    | .tup xs => (thawL (thaw f k m) xs).map .tup
    | .lst xs => (thawL (thaw f k m) xs).map .lst
    | .dic ks xs => (thawL (thaw f k m) xs).map (.dic ks)
    | .obj c xs => (thawL (thaw f k m) xs).map (.obj c)
    | .ref n => match m[n]? with
      | some (.lst xs) => (thawL (thaw f k m) xs).map .lst
      | some (.dic ks xs) => (thawL (thaw f k m) xs).map (.dic ks)
      | some (.ins c xs) => (thawL (thaw f k m) xs).map (.obj c)
      | none => none
    | _ => none
section
variable {T : Tab} {ρ t : List Addr} {H : Hp} {m : S}
theorem thawL_is {g : D → Option D} (hg : ∀ (d d' : D) (v : V), g d = some d' → Is T (ρ ++ t) H d v → Is T ρ H d' v) : ∀ (xs ys : List D) (vs : List V), thawL g xs = some ys → Iss T (ρ ++ t) H xs vs → Iss T ρ H ys vs
  | [], ys, vs, e, r => by
    cases r
    simp only [thawL, Option.some.injEq] at e
    subst e; exact .nil
  | x :: xs, ys, vs, e, r => by
    cases r with
    | cons r1 r2 =>
      unfold thawL at e
      split at e
      · rename_i y ys' e1 e2
        cases e
        exact .cons (hg _ _ _ e1 r1) (thawL_is hg xs ys' _ e2 r2)
      · cases e
theorem place_nin (st : StOk T (ρ ++ t) m H) {n : Nat} {a : Addr} (h : (ρ ++ t)[n]? = some a) (hn : ¬ n < ρ.length) : a ∉ ρ := fun z => by
  rw [List.getElem?_append_right (by omega)] at h
  exact (List.nodup_append.mp st.nd).2.2 a z a (List.mem_of_getElem? h) rfl
theorem thawL_len {g : D → Option D} : ∀ (xs ys : List D), thawL g xs = some ys → ys.length = xs.length
  | [], ys, e => by simp [thawL] at e; subst e; rfl
  | x :: xs, ys, e => by
    unfold thawL at e
    split at e
    · rename_i y ys' e1 e2
      cases e
      simp [thawL_len xs ys' e2]
    · cases e
theorem thaw_is (st : StOk T (ρ ++ t) m H) : ∀ (f : Nat) (d d' : D) (v : V), thaw f ρ.length m d = some d' → Is T (ρ ++ t) H d v → Is T ρ H d' v
  | 0, d, d', v, e, r => by
    unfold thaw at e
    split at e
    · rename_i c; cases e; exact r.shrink c
    · cases e
  | f + 1, d, d', v, e, r => by
    have ih := fun xs ys vs => thawL_is (T := T) (ρ := ρ) (t := t) (H := H) (thaw_is st f) xs ys vs
    unfold thaw at e
    split at e
    · rename_i c; cases e; exact r.shrink c
    · rename_i nc
      split at e
      · obtain ⟨ys, e1, rfl⟩ := Option.map_eq_some_iff.mp e
        cases r with
        | tup h n r => exact .tup h (nin_left n) (ih _ _ _ e1 r)
      · obtain ⟨ys, e1, rfl⟩ := Option.map_eq_some_iff.mp e
        cases r with
        | lst h n r => exact .lst h (nin_left n) (ih _ _ _ e1 r)
      · obtain ⟨ys, e1, rfl⟩ := Option.map_eq_some_iff.mp e
        cases r with
        | dic h n l r => exact .dic h (nin_left n) (by rw [thawL_len _ _ e1]; exact l) (ih _ _ _ e1 r)
      · obtain ⟨ys, e1, rfl⟩ := Option.map_eq_some_iff.mp e
        cases r with
        | obj h n r => exact .obj h (nin_left n) (ih _ _ _ e1 r)
      · rename_i n
        cases r with
        | ref hn =>
          have hnk : ¬ n < ρ.length := fun z => nc (by simp only [cl, decide_eq_true_eq]; exact z)
          have na := place_nin st hn hnk
          split at e
          · rename_i xs q
            obtain ⟨ys, e1, rfl⟩ := Option.map_eq_some_iff.mp e
            obtain ⟨vs, h1, h2⟩ := st.obs n _ _ hn q
            exact .lst h1 na (ih _ _ _ e1 h2)
          · rename_i ks xs q
            obtain ⟨ys, e1, rfl⟩ := Option.map_eq_some_iff.mp e
            obtain ⟨vs, h1, h2, h3⟩ := st.obs n _ _ hn q
            exact .dic h1 na (by rw [thawL_len _ _ e1]; exact h2) (ih _ _ _ e1 h3)
          · rename_i c xs q
            obtain ⟨ys, e1, rfl⟩ := Option.map_eq_some_iff.mp e
            obtain ⟨dx, vs, h1, h2⟩ := st.obs n _ _ hn q
            exact .obj h1 na (ih _ _ _ e1 h2)
          · cases e
      · cases e
end
/-- a def's function, its result freed -/
def frz (F : FD) : FD := fun ds m => match F ds m with
  | .ok d m1 => (match thaw 20 m.length m1 d with
    | some d' => if (m1.take m.length).all (clOb m.length) = true then .ok d' (m1.take m.length) else .bad
    | none => .bad)
  | .err c fs m1 => .err c fs m1
  | .bad => .bad
theorem spD_frz {T : Tab} {n : Nat} {F : FD} {vs : List V} {H : Hp} {Q : VK} {E : XK} (h : spD T n (frz F) vs H Q E) : spD T n F vs H Q E := by
  obtain ⟨hl, ρ, m, ds, st, r, h⟩ := h
  refine ⟨hl, ρ, m, ds, st, r, ?_⟩
  unfold frz at h
  cases e : F ds m with
  | ok d m1 =>
    rw [e] at h
    simp only at h
    intro ρ1 H1 v l s r1
    obtain ⟨t, et, ht⟩ := l.grow
    subst et
    cases e2 : thaw 20 m.length m1 d with
    | none => rw [e2] at h; exact h.elim
    | some d' =>
      rw [e2] at h
      simp only at h
      split at h
      · rename_i hc
        rw [← st.len] at hc e2 h
        exact h ρ H1 v l.shrink (s.shrink hc) (thaw_is s 20 d d' v e2 r1)
      · exact h.elim
  | err c fs m1 => rw [e] at h; exact h
  | bad => rw [e] at h; exact h
theorem Fn.frz {P : Program} {w : World} {K : PySem.W.Frag} {mg : Str → Option Value} {base : Heap} {T : Tab} {k : Nat} {x : Str} {ps : List Str} {kws : List (List Str × List Nat)} {F : FD} (h : Fn P w K mg base T k x ps kws F) : Fn P w K mg base T k x ps kws (frz F) :=
  let ⟨f, fd, G, r⟩ := h.ex; ⟨f, fd, G.imp fun _ _ _ _ z => spD_frz z, r⟩
theorem FnAt.frz {P : Program} {w : World} {K : PySem.W.Frag} {mg : Str → Option Value} {base : Heap} {T : Tab} {k : Nat} {f : Addr} {ps : List Str} {kws : List (Nat × List Str × List Nat)} {F : FD} (h : FnAt P w K mg base T k f ps kws F) : FnAt P w K mg base T k f ps kws (DL.frz F) :=
  let ⟨fd, G, r⟩ := h.ex; ⟨fd, G.imp fun _ _ _ _ z => spD_frz z, r⟩
/-- plain: data that stands in the def's own store -/
theorem thaw_cl {f k : Nat} {m : S} {d : D} (h : cl k d = true) : thaw f k m d = some d := by
  cases f <;> (unfold thaw; rw [if_pos h])
theorem thawL_cl {f k : Nat} {m : S} : ∀ {xs : List D}, cls k xs = true → thawL (thaw f k m) xs = some xs
  | [], _ => rfl
  | x :: xs, h => by
    simp only [cls, Bool.and_eq_true] at h
    unfold thawL
    rw [thaw_cl h.1, thawL_cl h.2]
theorem frz_lst {F : FD} {ds : List D} {m m1 : S} {n : Nat} {xs : List D} (h : F ds m = .ok (.ref n) m1) (hn : m.length ≤ n) (e : m1[n]? = some (.lst xs)) (c : cls m.length xs = true) (w : (m1.take m.length).all (clOb m.length) = true) : frz F ds m = .ok (.lst xs) (m1.take m.length) := by
  unfold frz
  rw [h]
  have : thaw 20 m.length m1 (.ref n) = some (.lst xs) := by
    unfold thaw
    have nc : ¬ cl m.length (.ref n) = true := by simp only [cl, decide_eq_true_eq]; omega
    rw [if_neg nc]
    simp only [e]
    rw [thawL_cl c]; rfl
  simp only [this]
  rw [if_pos w]
theorem frz_cl {F : FD} {ds : List D} {m m1 : S} {d : D} (h : F ds m = .ok d m1) (c : cl m.length d = true) (w : (m1.take m.length).all (clOb m.length) = true) : frz F ds m = .ok d (m1.take m.length) := by
  unfold frz
  rw [h]
  simp only [thaw_cl c]
  rw [if_pos w]
end DL
end

section
open PySem PySem.Spec PyProof.Rows L2 DL
set_option Elab.async false
set_option maxRecDepth 100000
set_option maxHeartbeats 0
namespace L07
abbrev PP : Program := PySem.Challenge.pw_mapstack_k07_whole_changes_between_texts
noncomputable abbrev KK (w : World) : PySem.W.Frag := KY w.params
def CSP : List (Addr × Addr) := [(403, 401)]
def TT : Tab := { cls := fun c => ([66, 87, 108, 129, 329] : List Addr).getD c 0, flds := fun c => ([["given"], ["place_index"], ["given"], ["given"], ["own_low", "own_high", "own_fresh"]] : List (List Str)).getD c [], tabs := [(401, "law.<locals>.<lambda>")] }
def CS : List V := [.ty "int", .ty "tuple", .ty "str", .ty "bool", .ref 329]
def SUP : Nat → List V := fun c => ([[.ref 66, .ref 31, .ty "ValueError", .ty "Exception", .ty "BaseException", .ty "object"], [.ref 87, .ref 31, .ty "ValueError", .ty "Exception", .ty "BaseException", .ty "object"], [.ref 108, .ref 31, .ty "ValueError", .ty "Exception", .ty "BaseException", .ty "object"], [.ref 129, .ref 44, .ty "LookupError", .ty "Exception", .ty "BaseException", .ty "object"], [.ref 329, .ty "object"]] : List (List V)).getD c []
theorem cls_ok (w : World) : ∀ c, c < 4 → ClsX (KK w) (TT.cls c) := cls_by (by kernel_rfl)
theorem nof_given (w : World) : ∀ c, c < 4 → PySem.W.findIn (KK w) (.ref (TT.cls c)) "given" = some none := no_by (by kernel_rfl)
theorem nof_place_index (w : World) : ∀ c, c < 4 → PySem.W.findIn (KK w) (.ref (TT.cls c)) "place_index" = some none := no_by (by kernel_rfl)
theorem ins_ok (w : World) : ∀ c, 4 ≤ c → c < 5 → InsX (KK w) (TT.cls c) := ins_by (by kernel_rfl)
theorem isi_okI (w : World) : IsiOk (KK w) TT 5 CS SUP := isi_by (by kernel_rfl) (by kernel_rfl)
theorem fo_own_fresh (w : World) : FldOk (KK w) TT [4] "own_fresh" := fld_by (by kernel_rfl)
theorem fo_own_high (w : World) : FldOk (KK w) TT [4] "own_high" := fld_by (by kernel_rfl)
theorem fo_own_low (w : World) : FldOk (KK w) TT [4] "own_low" := fld_by (by kernel_rfl)
theorem isi_ok (w : World) : IsiOk (KK w) TT 4 CS SUP := isi_by (by kernel_rfl) (by kernel_rfl)
theorem sys_ok (w : World) : ∃ o, (KK w).lookup sysModules = some o ∧ ∀ vs n, o.data ≠ .seq vs n := sys_by (by kernel_rfl)
theorem exc_BadPlace (w : World) : ExC (KK w) 66 := ⟨by kernel_rfl, by kernel_rfl, by kernel_rfl⟩
theorem mk_BadPlace (w : World) (mg : Str → Option Value) (base : Heap) (M : L2.Mod (KK w) mg base) : MakeOk PP w base 66 "given" := by
  refine make_ok (K := KK w) (fI := 63) (B := "ValueError") (sf := "self") (gv := "given") M PySem.F.excBase_ValueError PySem.W.kxs_ValueError (by kernel_rfl) (by kernel_rfl) (by kernel_rfl) rfl (by kernel_rfl) rfl rfl rfl rfl (by decide) rfl rfl rfl rfl rfl (fun _ _ => rfl) (by decide) rfl rfl (by rfl) (by first | rfl | decide +kernel) rfl rfl (by kernel_rfl) (by kernel_rfl) (by kernel_rfl) (by kernel_rfl) (by kernel_rfl) (by kernel_rfl) (by kernel_rfl) rfl (by kernel_rfl) (fun x => ?_) (pl := L2.plainOf _) (fun _ => rfl) (fun _ => rfl) (fun _ => rfl) (fun _ => rfl) (by decide) (by decide)
  show PySem.refuseLoop x "__setattr__" (_ :: _ :: _) = _
  rw [PySem.refuseLoop_ref, PySem.refuseLoop_ref]; exact passes_Val x
theorem exc_BadText (w : World) : ExC (KK w) 87 := ⟨by kernel_rfl, by kernel_rfl, by kernel_rfl⟩
theorem mk_BadText (w : World) (mg : Str → Option Value) (base : Heap) (M : L2.Mod (KK w) mg base) : MakeOk PP w base 87 "place_index" := by
  refine make_ok (K := KK w) (fI := 84) (B := "ValueError") (sf := "self") (gv := "place_index") M PySem.F.excBase_ValueError PySem.W.kxs_ValueError (by kernel_rfl) (by kernel_rfl) (by kernel_rfl) rfl (by kernel_rfl) rfl rfl rfl rfl (by decide) rfl rfl rfl rfl rfl (fun _ _ => rfl) (by decide) rfl rfl (by rfl) (by first | rfl | decide +kernel) rfl rfl (by kernel_rfl) (by kernel_rfl) (by kernel_rfl) (by kernel_rfl) (by kernel_rfl) (by kernel_rfl) (by kernel_rfl) rfl (by kernel_rfl) (fun x => ?_) (pl := L2.plainOf _) (fun _ => rfl) (fun _ => rfl) (fun _ => rfl) (fun _ => rfl) (by decide) (by decide)
  show PySem.refuseLoop x "__setattr__" (_ :: _ :: _) = _
  rw [PySem.refuseLoop_ref, PySem.refuseLoop_ref]; exact passes_Val x
theorem exc_BadNumber (w : World) : ExC (KK w) 108 := ⟨by kernel_rfl, by kernel_rfl, by kernel_rfl⟩
theorem mk_BadNumber (w : World) (mg : Str → Option Value) (base : Heap) (M : L2.Mod (KK w) mg base) : MakeOk PP w base 108 "given" := by
  refine make_ok (K := KK w) (fI := 105) (B := "ValueError") (sf := "self") (gv := "given") M PySem.F.excBase_ValueError PySem.W.kxs_ValueError (by kernel_rfl) (by kernel_rfl) (by kernel_rfl) rfl (by kernel_rfl) rfl rfl rfl rfl (by decide) rfl rfl rfl rfl rfl (fun _ _ => rfl) (by decide) rfl rfl (by rfl) (by first | rfl | decide +kernel) rfl rfl (by kernel_rfl) (by kernel_rfl) (by kernel_rfl) (by kernel_rfl) (by kernel_rfl) (by kernel_rfl) (by kernel_rfl) rfl (by kernel_rfl) (fun x => ?_) (pl := L2.plainOf _) (fun _ => rfl) (fun _ => rfl) (fun _ => rfl) (fun _ => rfl) (by decide) (by decide)
  show PySem.refuseLoop x "__setattr__" (_ :: _ :: _) = _
  rw [PySem.refuseLoop_ref, PySem.refuseLoop_ref]; exact passes_Val x
theorem exc_NoPlace (w : World) : ExC (KK w) 129 := ⟨by kernel_rfl, by kernel_rfl, by kernel_rfl⟩
theorem mk_NoPlace (w : World) (mg : Str → Option Value) (base : Heap) (M : L2.Mod (KK w) mg base) : MakeOk PP w base 129 "given" := by
  refine make_ok (K := KK w) (fI := 126) (B := "LookupError") (sf := "self") (gv := "given") M PySem.F.excBase_LookupError PySem.W.kxs_LookupError (by kernel_rfl) (by kernel_rfl) (by kernel_rfl) rfl (by kernel_rfl) rfl rfl rfl rfl (by decide) rfl rfl rfl rfl rfl (fun _ _ => rfl) (by decide) rfl rfl (by rfl) (by first | rfl | decide +kernel) rfl rfl (by kernel_rfl) (by kernel_rfl) (by kernel_rfl) (by kernel_rfl) (by kernel_rfl) (by kernel_rfl) (by kernel_rfl) rfl (by kernel_rfl) (fun x => ?_) (pl := L2.plainOf _) (fun _ => rfl) (fun _ => rfl) (fun _ => rfl) (fun _ => rfl) (by decide) (by decide)
  show PySem.refuseLoop x "__setattr__" (_ :: _ :: _) = _
  rw [PySem.refuseLoop_ref, PySem.refuseLoop_ref]; exact passes_Look x
def HIT_BadText : Nat → Bool := fun c => ([false, true, false, false] : List Bool).getD c false
theorem hit_BadText (w : World) : ∀ c, c < 4 → PySem.W.exmOne (KK w) (.ref (TT.cls c)) (.ref 87) = some (HIT_BadText c) := hit1_by (by kernel_rfl)
end L07
end

section
open PySem DL
set_option linter.all false
set_option Elab.async false
set_option maxRecDepth 100000
set_option maxHeartbeats 1000000
/-! plain facts of the layer's functions -/
namespace DL
/-- no place of the store names one that is not there -/
def Wf (m : S) : Prop := m.all (clOb m.length) = true
theorem lcLoop_pure {g : GD} {tt : EB} {te : E1} {μ : Env'} {h : D → D} {m : S} : ∀ (xs : List D) (acc : List D), (∀ x ∈ xs, ∃ μx, g x μ = some μx ∧ ∀ m', tt μx m' = .ok true m' ∧ te μx m' = .ok (h x) m') → acc.length + xs.length ≤ cap →
    lcLoop m.length g tt te μ xs (m ++ [.lst acc]) = some (m ++ [.lst (acc ++ xs.map h)])
  | [], acc, _, _ => by simp [lcLoop]
  | x :: xs, acc, hx, hc => by
    obtain ⟨μx, e1, e2⟩ := hx x (List.mem_cons_self ..)
    have hc' : (acc ++ [h x]).length + xs.length ≤ cap := by simp at hc ⊢; omega
    have ih := lcLoop_pure (m := m) xs (acc ++ [h x]) (fun y hy => hx y (List.mem_cons_of_mem _ hy)) hc'
    have ha : acc.length ≤ cap := by simp at hc; omega
    simp [lcLoop, e1, e2, ha] at ih ⊢
    exact ih
theorem lcE_pure {vs : List Nat} {f : EL} {g : GD} {tt : EB} {te : E1} {μ : Env'} {h : D → D} {m : S} {ds : List D} (hf : f μ m = .ok ds m) (hx : ∀ x ∈ ds, ∃ μx, g x (wipeD μ vs) = some μx ∧ ∀ m', tt μx m' = .ok true m' ∧ te μx m' = .ok (h x) m') (hc : ds.length ≤ cap)
    (wf : Wf m) (cl : cls m.length (ds.map h) = true) : lcE vs f g tt te μ m = .ok (.lst (ds.map h)) m := by
  have e := lcLoop_pure (m := m) (g := g) (tt := tt) (te := te) (μ := wipeD μ vs) ds [] hx (by simpa using hc)
  unfold lcE
  rw [hf]
  simp only [R.bind_ok]
  rw [e]
  unfold Wf at wf
  simp [takeL, cl, wf]

section
variable {μ μ1 : Env'} {m m1 m2 m3 : S} {x y d : D}
theorem seqS_nx {f g : ST} (h : f μ m = .nx μ1 m1) : seqS f g μ m = g μ1 m1 := by unfold seqS; rw [h]
theorem seqS_ret {f g : ST} (h : f μ m = .ret d m1) : seqS f g μ m = .ret d m1 := by unfold seqS; rw [h]
theorem seqS_err {f g : ST} {c : Nat} {fs : List D} (h : f μ m = .err c fs μ1 m1) : seqS f g μ m = .err c fs μ1 m1 := by unfold seqS; rw [h]
theorem ifS_t {c : EB} {f g : ST} (h : c μ m = .ok true m1) : ifS c f g μ m = f μ m1 := by unfold ifS; rw [h]
theorem ifS_f {c : EB} {f g : ST} (h : c μ m = .ok false m1) : ifS c f g μ m = g μ m1 := by unfold ifS; rw [h]
theorem isB_ok {f : E1} {b : Bool} (h : f μ m = .ok (.bl b) m1) : isB f μ m = .ok b m1 := by unfold isB; rw [h]; rfl
theorem bin_ok {F : OpF} {f g : E1} {r : R D} (hf : f μ m = .ok x m1) (hg : g μ m1 = .ok y m2) (h : F x y m2 = r) : bin F f g μ m = r := by unfold bin; rw [hf, R.bind_ok, hg, R.bind_ok, h]
theorem setS_ok {i : Nat} {f : E1} (h : f μ m = .ok d m1) : setS i f μ m = .nx (μ.set i (some d)) m1 := by unfold setS liftS; rw [h]
theorem retS_ok {f : E1} (h : f μ m = .ok d m1) : retS f μ m = .ret d m1 := by unfold retS liftS; rw [h]
theorem exprS_ok {f : E1} (h : f μ m = .ok d m1) : exprS f μ m = .nx μ m1 := by unfold exprS liftS; rw [h]
theorem callF_ok {F : FD} {dds ds : List D} {f : EL} {r : R D} (hf : f μ m = .ok ds m1) (h : F (ds ++ dds) m1 = r) : callF F dds f μ m = r := by unfold callF; rw [hf, R.bind_ok, h]
theorem callE_ok {F : CF} {ds : List D} {f : EL} {r : R D} (hf : f μ m = .ok ds m1) (h : F ds m1 = r) : callE F f μ m = r := by unfold callE; rw [hf, R.bind_ok, h]
theorem consL_ok {f : E1} {g : EL} {ds : List D} (hf : f μ m = .ok d m1) (hg : g μ m1 = .ok ds m2) : consL f g μ m = .ok (d :: ds) m2 := by unfold consL; rw [hf, R.bind_ok, hg, R.bind_ok]
theorem var_ok {i : Nat} (h : μ[i]? = some (some d)) : var i μ m = .ok d m := by unfold var; rw [h]
theorem notB_ok {f : EB} {b : Bool} (h : f μ m = .ok b m1) : notB f μ m = .ok (!b) m1 := by unfold notB; rw [h]; rfl
theorem notB_t {f : EB} (h : f μ m = .ok true m1) : notB f μ m = .ok false m1 := notB_ok h
theorem notB_f {f : EB} (h : f μ m = .ok false m1) : notB f μ m = .ok true m1 := notB_ok h
theorem orB_t {f g : EB} (h : f μ m = .ok true m1) : orB f g μ m = .ok true m1 := by unfold orB; rw [h]; rfl
theorem orB_f {f g : EB} (h : f μ m = .ok false m1) : orB f g μ m = g μ m1 := by unfold orB; rw [h]; rfl
theorem andB_t {f g : EB} (h : f μ m = .ok true m1) : andB f g μ m = g μ m1 := by unfold andB; rw [h]; rfl
theorem andB_f {f g : EB} (h : f μ m = .ok false m1) : andB f g μ m = .ok false m1 := by unfold andB; rw [h]; rfl
theorem ifE_t {c : EB} {f g : E1} (h : c μ m = .ok true m1) : ifE c f g μ m = f μ m1 := by unfold ifE; rw [h]; rfl
theorem ifE_f {c : EB} {f g : E1} (h : c μ m = .ok false m1) : ifE c f g μ m = g μ m1 := by unfold ifE; rw [h]; rfl
theorem forS_ok {f : EL} {g : GD} {b : ST} {ds : List D} (h : f μ m = .ok ds m1) : forS f g b μ m = loopS g b ds μ m1 := by unfold forS liftL; rw [h]
theorem loop_nil {g : GD} {b : ST} : loopS g b [] μ m = .nx μ m := rfl
theorem loop_cons {g : GD} {b : ST} {xs : List D} {μ2 : Env'} (hg : g x μ = some μ1) (hb : b μ1 m = .nx μ2 m1) : loopS g b (x :: xs) μ m = loopS g b xs μ2 m1 := by rw [loopS, hg]; simp only [hb]
/-- a loop with an invariant -/
theorem loop_inv {g : GD} {b : ST} (P : Env' → S → Prop) : ∀ (xs : List D) (μ : Env') (m : S), P μ m → (∀ x ∈ xs, ∀ μ m, P μ m → ∃ μ1, g x μ = some μ1 ∧ ∃ μ2 m2, b μ1 m = .nx μ2 m2 ∧ P μ2 m2) → ∃ μ2 m2, loopS g b xs μ m = .nx μ2 m2 ∧ P μ2 m2
  | [], μ, m, h, _ => ⟨μ, m, rfl, h⟩
  | x :: xs, μ, m, h, s => by
    obtain ⟨μ1, e1, μ2, m2, e2, h2⟩ := s x (List.mem_cons_self ..) μ m h
    rw [loop_cons e1 e2]
    exact loop_inv P xs μ2 m2 h2 fun y hy => s y (List.mem_cons_of_mem _ hy)
theorem runF_ret {n : Nat} {F : ST} {ds : List D} (h : F (ds.map some ++ List.replicate (n - ds.length) none) m = .ret d m1) : runF n F ds m = .ok d m1 := by unfold runF; rw [h]
theorem runF_err {n : Nat} {F : ST} {ds : List D} {c : Nat} {fs : List D} (h : F (ds.map some ++ List.replicate (n - ds.length) none) m = .err c fs μ1 m1) : runF n F ds m = .err c fs m1 := by unfold runF; rw [h]
end

mutual
theorem cl_mono {n k : Nat} (h : n ≤ k) : ∀ d : D, cl n d = true → cl k d = true
  | .non, _ => by simp only [cl]
  | .bl _, _ => by simp only [cl]
  | .int _, _ => by simp only [cl]
  | .str _, _ => by simp only [cl]
  | .tup xs, e => by simp only [cl] at e ⊢; exact cls_mono h xs e
  | .lst xs, e => by simp only [cl] at e ⊢; exact cls_mono h xs e
  | .scr xs, e => by simp only [cl] at e ⊢; exact cls_mono h xs e
  | .dic _ xs, e => by simp only [cl] at e ⊢; exact cls_mono h xs e
  | .ref j, e => by simp only [cl, decide_eq_true_eq] at e ⊢; omega
  | .con _, _ => by simp only [cl]
  | .exc _ xs, e => by simp only [cl] at e ⊢; exact cls_mono h xs e
  | .obj _ xs, e => by simp only [cl] at e ⊢; exact cls_mono h xs e
  | .lam _ _, e => by simp only [cl] at e; cases e
theorem cls_mono {n k : Nat} (h : n ≤ k) : ∀ ds : List D, cls n ds = true → cls k ds = true
  | [], _ => by simp only [cls]
  | d :: ds, e => by
    simp only [cls, Bool.and_eq_true] at e ⊢
    exact ⟨cl_mono h d e.1, cls_mono h ds e.2⟩
end
theorem clOb_mono {n k : Nat} (h : n ≤ k) (ob : Ob) (e : clOb n ob = true) : clOb k ob = true := by
  cases ob with
  | lst xs => exact cls_mono h xs e
  | dic _ xs => exact cls_mono h xs e
  | ins _ xs => exact cls_mono h xs e
theorem Wf.nil : Wf [] := rfl
theorem Wf.snoc {m : S} {ob : Ob} (w : Wf m) (h : clOb m.length ob = true) : Wf (m ++ [ob]) := by
  unfold Wf at w ⊢
  rw [List.length_append, List.all_append, Bool.and_eq_true]
  refine ⟨List.all_eq_true.mpr fun x hx => clOb_mono (Nat.le_add_right _ _) x (List.all_eq_true.mp w x hx), ?_⟩
  simp only [List.all_cons, List.all_nil, Bool.and_true]
  exact clOb_mono (Nat.le_add_right _ _) ob h
theorem Wf.set {m : S} {ob : Ob} {n : Nat} (w : Wf m) (h : clOb m.length ob = true) : Wf (m.set n ob) := by
  unfold Wf at w ⊢
  rw [List.length_set]
  refine List.all_eq_true.mpr fun x hx => ?_
  rcases List.mem_or_eq_of_mem_set hx with z | z
  · exact List.all_eq_true.mp w x z
  · rw [z]; exact h
theorem enumG_mem : ∀ {ds : List D} {n : Nat} {x : D}, x ∈ enumG n ds → ∃ (i : Nat) (d : D), x = .tup [.int i, d] ∧ d ∈ ds ∧ n ≤ i ∧ i < n + ds.length
  | [], _, _, h => by cases h
  | d :: ds, n, x, h => by
    simp only [enumG, List.mem_cons] at h
    rcases h with rfl | h
    · exact ⟨n, d, rfl, List.mem_cons_self .., Nat.le_refl _, by simp⟩
    · obtain ⟨i, d', e, h1, h2, h3⟩ := enumG_mem h
      exact ⟨i, d', e, List.mem_cons_of_mem _ h1, by omega, by rw [List.length_cons]; omega⟩
theorem cutD_mem {xs : List D} {lo hi : Option Int} {x : D} (h : x ∈ cutD xs lo hi) : x ∈ xs := List.mem_of_mem_drop (List.mem_of_mem_take h)
end DL
end

section
open PySem PySem.Spec PyProof.Rows L2 DL
set_option Elab.async false
set_option maxRecDepth 100000
set_option maxHeartbeats 0
set_option linter.all false
namespace L07
noncomputable section
def F_is_natural : ST := (retS (andE (callE (isiI 4 5 CS SUP) (consL (var 0) (consL (cst (.con (.ty "int"))) nilL))) (andE (notE (callE (isiI 4 5 CS SUP) (consL (var 0) (consL (cst (.con (.ty "bool"))) nilL)))) (bin geF (var 0) (cst (.int 0))))))
def D_is_natural : FD := runF 1 F_is_natural
theorem fn_is_natural (w : World) (mg : Str → Option Value) (base : Heap) (M : L2.Mod (KK w) mg base) (TB : TBS CSP mg base) : Fn PP w (KK w) mg base TT 2 "is_natural" (["value"] : List Str) [] D_is_natural := by
  have nd : ((["value"] : List Str)).Nodup := by decide
  refine ⟨138, _, fn_d (N := (["value"] : List Str)) (ps := (["value"] : List Str)) (F := F_is_natural) rfl (by kernel_rfl) (C8.fnScope_by (by rfl)) ?_, mg_some M.kin M.glob (by kernel_rfl), by kernel_rfl, Binds.all fun us hl => match us, hl with | [a0], _ => rfl, (fun _ h => nomatch h)⟩
  intro A outer s H E rg tk pso
  unfold F_is_natural
  exact (sd_one (sd_ret (pd_and (pd_isiI (cls_ok w) (ins_ok w) (isi_okI w) rfl (mgn M (by kernel_rfl)) (pl_cons (pd_v rfl (by first | exact .inl rfl | exact .inr (.inl rfl) | exact .inr (.inr rfl))) (pl_cons (pd_ty rfl (mgn M (by kernel_rfl)) Boot.«int») pl_nil))) (pd_and (pd_not (pd_isiI (cls_ok w) (ins_ok w) (isi_okI w) rfl (mgn M (by kernel_rfl)) (pl_cons (pd_v rfl (by first | exact .inl rfl | exact .inr (.inl rfl) | exact .inr (.inr rfl))) (pl_cons (pd_ty rfl (mgn M (by kernel_rfl)) Boot.«bool») pl_nil)))) (pd_one (pd_ge (pd_v rfl (by first | exact .inl rfl | exact .inr (.inl rfl) | exact .inr (.inr rfl))) pd_int))))))
def F_is_place : ST := (retS (andE (callE (isiI 4 5 CS SUP) (consL (var 0) (consL (cst (.con (.ty "tuple"))) nilL))) (andE (bin eqF (callE lenF (consL (var 0) nilL)) (cst (.int 2))) (andE (callF D_is_natural [] (consL (bin ixF (var 0) (cst (.int 0))) nilL)) (callF D_is_natural [] (consL (bin ixF (var 0) (cst (.int 1))) nilL))))))
def D_is_place : FD := runF 1 F_is_place
theorem fn_is_place (w : World) (mg : Str → Option Value) (base : Heap) (M : L2.Mod (KK w) mg base) (TB : TBS CSP mg base) : Fn PP w (KK w) mg base TT 6 "is_place" (["value"] : List Str) [] D_is_place := by
  have nd : ((["value"] : List Str)).Nodup := by decide
  refine ⟨145, _, fn_d (N := (["value"] : List Str)) (ps := (["value"] : List Str)) (F := F_is_place) rfl (by kernel_rfl) (C8.fnScope_by (by rfl)) ?_, mg_some M.kin M.glob (by kernel_rfl), by kernel_rfl, Binds.all fun us hl => match us, hl with | [a0], _ => rfl, (fun _ h => nomatch h)⟩
  intro A outer s H E rg tk pso
  unfold F_is_place
  exact (sd_one (sd_ret (pd_and (pd_isiI (cls_ok w) (ins_ok w) (isi_okI w) rfl (mgn M (by kernel_rfl)) (pl_cons (pd_v rfl (by first | exact .inl rfl | exact .inr (.inl rfl) | exact .inr (.inr rfl))) (pl_cons (pd_ty rfl (mgn M (by kernel_rfl)) Boot.«tuple») pl_nil))) (pd_and (pd_eq (rg.mono (by decide)) (pd_len rfl (mgn M (by kernel_rfl)) (pl_cons (pd_v rfl (by first | exact .inl rfl | exact .inr (.inl rfl) | exact .inr (.inr rfl))) pl_nil)) pd_int) (pd_and (pd_fn (fn_is_natural w mg base M TB) rg (by decide) tk rfl (pl_cons (pd_ix (pd_v rfl (by first | exact .inl rfl | exact .inr (.inl rfl) | exact .inr (.inr rfl))) pd_int) pl_nil)) (pd_one (pd_fn (fn_is_natural w mg base M TB) rg (by decide) tk rfl (pl_cons (pd_ix (pd_v rfl (by first | exact .inl rfl | exact .inr (.inl rfl) | exact .inr (.inr rfl))) pd_int) pl_nil))))))))
def F_need_places : ST := (seqS (ifS (notB (isB (callF D_is_place [] (consL (var 0) nilL)))) (raiseS 0 (var 0)) nextS) (ifS (orB (notB (isB (callF D_is_place [] (consL (var 1) nilL)))) (isB (bin lt2F (var 1) (var 0)))) (raiseS 0 (var 1)) nextS))
def D_need_places : FD := runF 2 F_need_places
theorem fn_need_places (w : World) (mg : Str → Option Value) (base : Heap) (M : L2.Mod (KK w) mg base) (TB : TBS CSP mg base) : Fn PP w (KK w) mg base TT 7 "need_places" (["low", "high"] : List Str) [] D_need_places := by
  have nd : ((["low", "high"] : List Str)).Nodup := by decide
  refine ⟨166, _, fn_d (N := (["low", "high"] : List Str)) (ps := (["low", "high"] : List Str)) (F := F_need_places) rfl (by kernel_rfl) (C8.fnScope_by (by rfl)) ?_, mg_some M.kin M.glob (by kernel_rfl), by kernel_rfl, Binds.all fun us hl => match us, hl with | [a0, a1], _ => rfl, (fun _ h => nomatch h)⟩
  intro A outer s H E rg tk pso
  unfold F_need_places
  exact (sd_cons (sd_if (td_not (td_val (pd_fn (fn_is_place w mg base M TB) rg (by decide) tk rfl (pl_cons (pd_v rfl (by first | exact .inl rfl | exact .inr (.inl rfl) | exact .inr (.inr rfl))) pl_nil)))) (sd_one (sd_raise (mk_BadPlace w mg base M) (rg.mono (by decide)) (exc_BadPlace w) rfl rfl rfl (mg_some M.kin M.glob (by kernel_rfl)) rfl tk (pd_v rfl (by first | exact .inl rfl | exact .inr (.inl rfl) | exact .inr (.inr rfl))))) sd_nil) (sd_one (sd_if (PW.pt (tw_or (td_not (td_val (pd_fn (fn_is_place w mg base M TB) rg (by decide) tk rfl (pl_cons (pd_v rfl (by first | exact .inl rfl | exact .inr (.inl rfl) | exact .inr (.inr rfl))) pl_nil)))) (tw_or1 (td_lt2 rg (pd_v rfl (by first | exact .inl rfl | exact .inr (.inl rfl) | exact .inr (.inr rfl))) (pd_v rfl (by first | exact .inl rfl | exact .inr (.inl rfl) | exact .inr (.inr rfl))))))) (sd_one (sd_raise (mk_BadPlace w mg base M) (rg.mono (by decide)) (exc_BadPlace w) rfl rfl rfl (mg_some M.kin M.glob (by kernel_rfl)) rfl tk (pd_v rfl (by first | exact .inl rfl | exact .inr (.inl rfl) | exact .inr (.inr rfl))))) sd_nil)))
def F_need_text : ST := (ifS (notB (isB (callE (isiI 4 5 CS SUP) (consL (var 0) (consL (cst (.con (.ty "str"))) nilL))))) (raiseS 1 (cst .non)) nextS)
def D_need_text : FD := runF 1 F_need_text
theorem fn_need_text (w : World) (mg : Str → Option Value) (base : Heap) (M : L2.Mod (KK w) mg base) (TB : TBS CSP mg base) : Fn PP w (KK w) mg base TT 6 "need_text" (["text"] : List Str) [] D_need_text := by
  have nd : ((["text"] : List Str)).Nodup := by decide
  refine ⟨152, _, fn_d (N := (["text"] : List Str)) (ps := (["text"] : List Str)) (F := F_need_text) rfl (by kernel_rfl) (C8.fnScope_by (by rfl)) ?_, mg_some M.kin M.glob (by kernel_rfl), by kernel_rfl, Binds.all fun us hl => match us, hl with | [a0], _ => rfl, (fun _ h => nomatch h)⟩
  intro A outer s H E rg tk pso
  unfold F_need_text
  exact (sd_one (sd_if (td_not (td_val (pd_isiI (cls_ok w) (ins_ok w) (isi_okI w) rfl (mgn M (by kernel_rfl)) (pl_cons (pd_v rfl (by first | exact .inl rfl | exact .inr (.inl rfl) | exact .inr (.inr rfl))) (pl_cons (pd_ty rfl (mgn M (by kernel_rfl)) Boot.«str») pl_nil))))) (sd_one (sd_raise (mk_BadText w mg base M) (rg.mono (by decide)) (exc_BadText w) rfl rfl rfl (mg_some M.kin M.glob (by kernel_rfl)) rfl tk pd_non)) sd_nil))
def F_Edit___init__ : ST := (seqS (exprS (callF D_need_places [] (consL (var 1) (consL (var 2) nilL)))) (seqS (exprS (callF D_need_text [] (consL (var 3) nilL))) (seqS (setFldS TT [4] "own_low" (var 1) (var 0)) (seqS (setFldS TT [4] "own_high" (var 2) (var 0)) (setFldS TT [4] "own_fresh" (var 3) (var 0))))))
def D_Edit___init__ : FD := runF 4 F_Edit___init__
theorem fa_Edit___init__ (w : World) (mg : Str → Option Value) (base : Heap) (M : L2.Mod (KK w) mg base) (TB : TBS CSP mg base) : FnAt PP w (KK w) mg base TT 8 241 (["self", "low", "high", "fresh"] : List Str) [] D_Edit___init__ := by
  have nd : ((["self", "low", "high", "fresh"] : List Str)).Nodup := by decide
  refine ⟨_, fn_d (N := (["self", "low", "high", "fresh"] : List Str)) (ps := (["self", "low", "high", "fresh"] : List Str)) (F := F_Edit___init__) rfl (by kernel_rfl) (C8.fnScope_by (by rfl)) ?_, Binds.all fun us hl => match us, hl with | [a0, a1, a2, a3], _ => rfl, (fun _ h => nomatch h)⟩
  intro A outer s H E rg tk pso
  unfold F_Edit___init__
  exact (sd_cons (sd_expr (pd_fn (fn_need_places w mg base M TB) rg (by decide) tk rfl (pl_cons (pd_v rfl (by first | exact .inl rfl | exact .inr (.inl rfl) | exact .inr (.inr rfl))) (pl_cons (pd_v rfl (by first | exact .inl rfl | exact .inr (.inl rfl) | exact .inr (.inr rfl))) pl_nil)))) (sd_cons (sd_expr (pd_fn (fn_need_text w mg base M TB) rg (by decide) tk rfl (pl_cons (pd_v rfl (by first | exact .inl rfl | exact .inr (.inl rfl) | exact .inr (.inr rfl))) pl_nil))) (sd_cons (sd_fld (fo_own_low w) (pd_v rfl (by first | exact .inl rfl | exact .inr (.inl rfl) | exact .inr (.inr rfl))) (pd_v rfl (by first | exact .inl rfl | exact .inr (.inl rfl) | exact .inr (.inr rfl)))) (sd_cons (sd_fld (fo_own_high w) (pd_v rfl (by first | exact .inl rfl | exact .inr (.inl rfl) | exact .inr (.inr rfl))) (pd_v rfl (by first | exact .inl rfl | exact .inr (.inl rfl) | exact .inr (.inr rfl)))) (sd_one (sd_fld (fo_own_fresh w) (pd_v rfl (by first | exact .inl rfl | exact .inr (.inl rfl) | exact .inr (.inr rfl))) (pd_v rfl (by first | exact .inl rfl | exact .inr (.inl rfl) | exact .inr (.inr rfl)))))))))
theorem ct_Edit (w : World) (mg : Str → Option Value) (base : Heap) (M : L2.Mod (KK w) mg base) (TB : TBS CSP mg base) : Ctor PP w (KK w) mg base TT 8 4 "Edit" (["self", "low", "high", "fresh"] : List Str) [] D_Edit___init__ := ⟨241, ⟨by kernel_rfl, by kernel_rfl, by kernel_rfl, by kernel_rfl⟩, fa_Edit___init__ w mg base M TB, mg_some M.kin M.glob (by kernel_rfl)⟩
def B_common_front_1 : ST := (ifS (isB (bin neF (var 3) (var 4))) breakS nextS)
def F_common_front : ST := (seqS (forE (enumZF (consL (var 0) (consL (var 1) nilL))) (gTp 2 (gCn (gNm 2) (gCn (gTp 2 (gCn (gNm 3) (gCn (gNm 4) gNl))) gNl))) B_common_front_1 (retS (callE minF (consL (callE lenF (consL (var 0) nilL)) (consL (callE lenF (consL (var 1) nilL)) nilL))))) (retS (var 2)))
def D_common_front : FD := runF 5 F_common_front
theorem fn_common_front (w : World) (mg : Str → Option Value) (base : Heap) (M : L2.Mod (KK w) mg base) (TB : TBS CSP mg base) : Fn PP w (KK w) mg base TT 6 "common_front" (["old", "new"] : List Str) [] D_common_front := by
  have nd : ((["old", "new", "index", "near", "far"] : List Str)).Nodup := by decide
  refine ⟨227, _, fn_d (N := (["old", "new", "index", "near", "far"] : List Str)) (ps := (["old", "new"] : List Str)) (F := F_common_front) rfl (by kernel_rfl) (C8.fnScope_by (by rfl)) ?_, mg_some M.kin M.glob (by kernel_rfl), by kernel_rfl, Binds.all fun us hl => match us, hl with | [a0, a1], _ => rfl, (fun _ h => nomatch h)⟩
  intro A outer s H E rg tk pso
  unfold F_common_front
  unfold B_common_front_1
  exact (sd_cons (sd_forE pso rfl (pid_enumZ rfl (mgn M (by kernel_rfl)) rfl (mgn M (by kernel_rfl)) (pl_cons (pd_v rfl (by first | exact .inl rfl | exact .inr (.inl rfl) | exact .inr (.inr rfl))) (pl_cons (pd_v rfl (by first | exact .inl rfl | exact .inr (.inl rfl) | exact .inr (.inr rfl))) pl_nil))) (gd_tup rfl (gd_cons (gd_name nd rfl (by first | exact .inl rfl | exact .inr rfl) (by first | exact .inl rfl | exact .inr rfl)) (gd_cons (gd_tup rfl (gd_cons (gd_name nd rfl (by first | exact .inl rfl | exact .inr rfl) (by first | exact .inl rfl | exact .inr rfl)) (gd_cons (gd_name nd rfl (by first | exact .inl rfl | exact .inr rfl) (by first | exact .inl rfl | exact .inr rfl)) gd_nil))) gd_nil))) (sd_one (sd_if (td_ne (rg.mono (by decide)) (pd_v rfl (by first | exact .inl rfl | exact .inr (.inl rfl) | exact .inr (.inr rfl))) (pd_v rfl (by first | exact .inl rfl | exact .inr (.inl rfl) | exact .inr (.inr rfl)))) (sd_one sd_break) sd_nil)) (sd_one (sd_ret (pd_min rfl rfl (mgn M (by kernel_rfl)) (pl_cons (pd_len rfl (mgn M (by kernel_rfl)) (pl_cons (pd_v rfl (by first | exact .inl rfl | exact .inr (.inl rfl) | exact .inr (.inr rfl))) pl_nil)) (pl_cons (pd_len rfl (mgn M (by kernel_rfl)) (pl_cons (pd_v rfl (by first | exact .inl rfl | exact .inr (.inl rfl) | exact .inr (.inr rfl))) pl_nil)) pl_nil)))))) (sd_one (sd_ret (pd_v rfl (by first | exact .inl rfl | exact .inr (.inl rfl) | exact .inr (.inr rfl))))))
def F_shape_of : ST := (seqS (setS 1 (methE "str" splitF (var 0) (consL (cst (.str "\n")) nilL))) (retS (tupE (consL (bin subF (callE lenF (consL (var 1) nilL)) (cst (.int 1))) (consL (callE lenF (consL (bin ixF (var 1) (negE (cst (.int 1)))) nilL)) nilL)))))
def D_shape_of : FD := runF 2 F_shape_of
theorem fn_shape_of (w : World) (mg : Str → Option Value) (base : Heap) (M : L2.Mod (KK w) mg base) (TB : TBS CSP mg base) : Fn PP w (KK w) mg base TT 2 "shape_of" (["text"] : List Str) [] D_shape_of := by
  have nd : ((["text", "parts"] : List Str)).Nodup := by decide
  refine ⟨173, _, fn_d (N := (["text", "parts"] : List Str)) (ps := (["text"] : List Str)) (F := F_shape_of) rfl (by kernel_rfl) (C8.fnScope_by (by rfl)) ?_, mg_some M.kin M.glob (by kernel_rfl), by kernel_rfl, Binds.all fun us hl => match us, hl with | [a0], _ => rfl, (fun _ h => nomatch h)⟩
  intro A outer s H E rg tk pso
  unfold F_shape_of
  exact (sd_cons (sd_set nd rfl (by first | exact .inl rfl | exact .inr rfl) (pd_meth md_split F.plainAttrs_str F.slot_str_split (by kernel_rfl) mt_split (pd_v rfl (by first | exact .inl rfl | exact .inr (.inl rfl) | exact .inr (.inr rfl))) (pl_cons pd_str pl_nil))) (sd_one (sd_ret (pd_tup (pl_cons (pd_bin od_sub op_sub (pd_len rfl (mgn M (by kernel_rfl)) (pl_cons (pd_v rfl (by first | exact .inl rfl | exact .inr (.inl rfl) | exact .inr (.inr rfl))) pl_nil)) pd_int) (pl_cons (pd_len rfl (mgn M (by kernel_rfl)) (pl_cons (pd_ix (pd_v rfl (by first | exact .inl rfl | exact .inr (.inl rfl) | exact .inr (.inr rfl))) (pd_neg pd_int)) pl_nil)) pl_nil))))))
def F_place_of : ST := (seqS (exprS (callF D_need_text [] (consL (var 0) nilL))) (seqS (ifS (orB (notB (isB (callF D_is_natural [] (consL (var 1) nilL)))) (isB (bin gtF (var 1) (callE lenF (consL (var 0) nilL))))) (raiseS 2 (var 1)) nextS) (retS (callF D_shape_of [] (consL (slE (var 0) noP (someP (var 1))) nilL)))))
def D_place_of : FD := runF 2 F_place_of
theorem fn_place_of (w : World) (mg : Str → Option Value) (base : Heap) (M : L2.Mod (KK w) mg base) (TB : TBS CSP mg base) : Fn PP w (KK w) mg base TT 7 "place_of" (["text", "index"] : List Str) [] D_place_of := by
  have nd : ((["text", "index"] : List Str)).Nodup := by decide
  refine ⟨213, _, fn_d (N := (["text", "index"] : List Str)) (ps := (["text", "index"] : List Str)) (F := F_place_of) rfl (by kernel_rfl) (C8.fnScope_by (by rfl)) ?_, mg_some M.kin M.glob (by kernel_rfl), by kernel_rfl, Binds.all fun us hl => match us, hl with | [a0, a1], _ => rfl, (fun _ h => nomatch h)⟩
  intro A outer s H E rg tk pso
  unfold F_place_of
  exact (sd_cons (sd_expr (pd_fn (fn_need_text w mg base M TB) rg (by decide) tk rfl (pl_cons (pd_v rfl (by first | exact .inl rfl | exact .inr (.inl rfl) | exact .inr (.inr rfl))) pl_nil))) (sd_cons (sd_if (PW.pt (tw_or (td_not (td_val (pd_fn (fn_is_natural w mg base M TB) rg (by decide) tk rfl (pl_cons (pd_v rfl (by first | exact .inl rfl | exact .inr (.inl rfl) | exact .inr (.inr rfl))) pl_nil)))) (tw_or1 (td_gt (pd_v rfl (by first | exact .inl rfl | exact .inr (.inl rfl) | exact .inr (.inr rfl))) (pd_len rfl (mgn M (by kernel_rfl)) (pl_cons (pd_v rfl (by first | exact .inl rfl | exact .inr (.inl rfl) | exact .inr (.inr rfl))) pl_nil)))))) (sd_one (sd_raise (mk_BadNumber w mg base M) (rg.mono (by decide)) (exc_BadNumber w) rfl rfl rfl (mg_some M.kin M.glob (by kernel_rfl)) rfl tk (pd_v rfl (by first | exact .inl rfl | exact .inr (.inl rfl) | exact .inr (.inr rfl))))) sd_nil) (sd_one (sd_ret (pd_fn (fn_shape_of w mg base M TB) rg (by decide) tk rfl (pl_cons (pd_slice (pd_v rfl (by first | exact .inl rfl | exact .inr (.inl rfl) | exact .inr (.inr rfl))) pp_none (pp_some (pd_v rfl (by first | exact .inl rfl | exact .inr (.inl rfl) | exact .inr (.inr rfl))))) pl_nil))))))
def F_Edit_between : ST := (seqS (exprS (callF D_need_text [] (consL (var 1) nilL))) (seqS (exprS (callF D_need_text [] (consL (var 2) nilL))) (seqS (setS 3 (callF D_common_front [] (consL (var 1) (consL (var 2) nilL)))) (seqS (parS 6 7 (consL (slE (var 1) (someP (var 3)) noP) (consL (slE (var 2) (someP (var 3)) noP) nilL))) (seqS (setS 4 (callF D_common_front [] (consL (revE (var 6)) (consL (revE (var 7)) nilL)))) (seqS (setS 5 (bin subF (callE lenF (consL (var 1) nilL)) (var 4))) (retS (makeV true 0 4 329 D_Edit___init__ (consL (callF D_place_of [] (consL (var 1) (consL (var 3) nilL))) (consL (callF D_place_of [] (consL (var 1) (consL (var 5) nilL))) (consL (slE (var 2) (someP (var 3)) (someP (bin subF (callE lenF (consL (var 2) nilL)) (var 4)))) nilL)))))))))))
def D_Edit_between : FD := runF 8 F_Edit_between
theorem fa_Edit_between (w : World) (mg : Str → Option Value) (base : Heap) (M : L2.Mod (KK w) mg base) (TB : TBS CSP mg base) : FnAt PP w (KK w) mg base TT 10 248 (["cls", "old", "new"] : List Str) [(1, (["new", "old"] : List Str), [0, 2, 1])] D_Edit_between := by
  have nd : ((["cls", "old", "new", "front", "back", "stop", "rest", "rest_there"] : List Str)).Nodup := by decide
  refine ⟨_, fn_d (N := (["cls", "old", "new", "front", "back", "stop", "rest", "rest_there"] : List Str)) (ps := (["cls", "old", "new"] : List Str)) (F := F_Edit_between) rfl (by kernel_rfl) (C8.fnScope_by (by rfl)) ?_, Binds.all fun us hl => match us, hl with | [a0, a1, a2], _ => rfl, (List.forall_mem_cons.mpr ⟨fun us ws hu hw => match us, hu, ws, hw with | [a0], _, [b0, b1], _ => rfl, (fun _ h => nomatch h)⟩)⟩
  intro A outer s H E rg tk pso
  unfold F_Edit_between
  exact (sd_cons (sd_expr (pd_fn (fn_need_text w mg base M TB) rg (by decide) tk rfl (pl_cons (pd_v rfl (by first | exact .inl rfl | exact .inr (.inl rfl) | exact .inr (.inr rfl))) pl_nil))) (sd_cons (sd_expr (pd_fn (fn_need_text w mg base M TB) rg (by decide) tk rfl (pl_cons (pd_v rfl (by first | exact .inl rfl | exact .inr (.inl rfl) | exact .inr (.inr rfl))) pl_nil))) (sd_cons (sd_set nd rfl (by first | exact .inl rfl | exact .inr rfl) (pd_fn (fn_common_front w mg base M TB) rg (by decide) tk rfl (pl_cons (pd_v rfl (by first | exact .inl rfl | exact .inr (.inl rfl) | exact .inr (.inr rfl))) (pl_cons (pd_v rfl (by first | exact .inl rfl | exact .inr (.inl rfl) | exact .inr (.inr rfl))) pl_nil)))) (sd_cons (sd_par rfl nd rfl rfl (by decide) rfl rfl (pl_cons (pd_slice (pd_v rfl (by first | exact .inl rfl | exact .inr (.inl rfl) | exact .inr (.inr rfl))) (pp_some (pd_v rfl (by first | exact .inl rfl | exact .inr (.inl rfl) | exact .inr (.inr rfl)))) pp_none) (pl_cons (pd_slice (pd_v rfl (by first | exact .inl rfl | exact .inr (.inl rfl) | exact .inr (.inr rfl))) (pp_some (pd_v rfl (by first | exact .inl rfl | exact .inr (.inl rfl) | exact .inr (.inr rfl)))) pp_none) pl_nil))) (sd_cons (sd_set nd rfl (by first | exact .inl rfl | exact .inr rfl) (pd_fn (fn_common_front w mg base M TB) rg (by decide) tk rfl (pl_cons (pd_revS (pd_v rfl (by first | exact .inl rfl | exact .inr (.inl rfl) | exact .inr (.inr rfl)))) (pl_cons (pd_revS (pd_v rfl (by first | exact .inl rfl | exact .inr (.inl rfl) | exact .inr (.inr rfl)))) pl_nil)))) (sd_cons (sd_set nd rfl (by first | exact .inl rfl | exact .inr rfl) (pd_bin od_sub op_sub (pd_len rfl (mgn M (by kernel_rfl)) (pl_cons (pd_v rfl (by first | exact .inl rfl | exact .inr (.inl rfl) | exact .inr (.inr rfl))) pl_nil)) (pd_v rfl (by first | exact .inl rfl | exact .inr (.inl rfl) | exact .inr (.inr rfl))))) (sd_one (sd_ret (pd_newV (ct_Edit w mg base M TB) rg (by decide) tk rfl (by first | exact .inl rfl | exact .inr (.inl rfl) | exact .inr (.inr rfl)) rfl (by kernel_rfl) (pl_cons (pd_fn (fn_place_of w mg base M TB) rg (by decide) tk rfl (pl_cons (pd_v rfl (by first | exact .inl rfl | exact .inr (.inl rfl) | exact .inr (.inr rfl))) (pl_cons (pd_v rfl (by first | exact .inl rfl | exact .inr (.inl rfl) | exact .inr (.inr rfl))) pl_nil))) (pl_cons (pd_fn (fn_place_of w mg base M TB) rg (by decide) tk rfl (pl_cons (pd_v rfl (by first | exact .inl rfl | exact .inr (.inl rfl) | exact .inr (.inr rfl))) (pl_cons (pd_v rfl (by first | exact .inl rfl | exact .inr (.inl rfl) | exact .inr (.inr rfl))) pl_nil))) (pl_cons (pd_slice (pd_v rfl (by first | exact .inl rfl | exact .inr (.inl rfl) | exact .inr (.inr rfl))) (pp_some (pd_v rfl (by first | exact .inl rfl | exact .inr (.inl rfl) | exact .inr (.inr rfl)))) (pp_some (pd_bin od_sub op_sub (pd_len rfl (mgn M (by kernel_rfl)) (pl_cons (pd_v rfl (by first | exact .inl rfl | exact .inr (.inl rfl) | exact .inr (.inr rfl))) pl_nil)) (pd_v rfl (by first | exact .inl rfl | exact .inr (.inl rfl) | exact .inr (.inr rfl)))))) pl_nil))))))))))))
theorem cm_Edit_between (w : World) (mg : Str → Option Value) (base : Heap) (M : L2.Mod (KK w) mg base) (TB : TBS CSP mg base) : CmOk PP w (KK w) mg base TT 10 329 "Edit" "between" (["cls", "old", "new"] : List Str) [(1, (["new", "old"] : List Str), [0, 2, 1])] D_Edit_between := ⟨⟨.type "type", 250, 248, ⟨by kernel_rfl, by kernel_rfl⟩, ⟨by kernel_rfl, rec_by (by kernel_rfl), by kernel_rfl⟩, fa_Edit_between w mg base M TB⟩, mg_some M.kin M.glob (by kernel_rfl)⟩
def F__law_mixed : ST := (seqS (setS 0 (bin modF (callE intCF (consL (bin mulF (bin addF (bin addF (bin modF (callE intCF (consL (var 0) nilL)) (cst (.int 2147483647))) (bin mulF (bin mulF (cst (.int 7919)) (var 1)) (var 1))) (bin mulF (cst (.int 31)) (var 1))) (cst (.int 48271))) nilL)) (cst (.int 2147483647)))) (retS (bin modF (callE intCF (consL (bin mulF (var 0) (bin addF (cst (.int 69621)) (bin mulF (cst (.int 2)) (var 1)))) nilL)) (cst (.int 2147483629)))))
def D__law_mixed : FD := runF 2 F__law_mixed
theorem fn__law_mixed (w : World) (mg : Str → Option Value) (base : Heap) (M : L2.Mod (KK w) mg base) (TB : TBS CSP mg base) : Fn PP w (KK w) mg base TT 2 "_law_mixed" (["number", "k"] : List Str) [] D__law_mixed := by
  have nd : ((["number", "k"] : List Str)).Nodup := by decide
  refine ⟨340, _, fn_d (N := (["number", "k"] : List Str)) (ps := (["number", "k"] : List Str)) (F := F__law_mixed) rfl (by kernel_rfl) (C8.fnScope_by (by rfl)) ?_, mg_some M.kin M.glob (by kernel_rfl), by kernel_rfl, Binds.all fun us hl => match us, hl with | [a0, a1], _ => rfl, (fun _ h => nomatch h)⟩
  intro A outer s H E rg tk pso
  unfold F__law_mixed
  exact (sd_cons (sd_set nd rfl (by first | exact .inl rfl | exact .inr rfl) (pd_bin od_mod op_mod (pd_toInt rfl (mgn M (by kernel_rfl)) (pl_cons (pd_bin od_mul or_mul (pd_bin od_add or_add (pd_bin od_add or_add (pd_bin od_mod op_mod (pd_toInt rfl (mgn M (by kernel_rfl)) (pl_cons (pd_v rfl (by first | exact .inl rfl | exact .inr (.inl rfl) | exact .inr (.inr rfl))) pl_nil)) pd_int) (pd_bin od_mul or_mul (pd_bin od_mul or_mul pd_int (pd_v rfl (by first | exact .inl rfl | exact .inr (.inl rfl) | exact .inr (.inr rfl)))) (pd_v rfl (by first | exact .inl rfl | exact .inr (.inl rfl) | exact .inr (.inr rfl))))) (pd_bin od_mul or_mul pd_int (pd_v rfl (by first | exact .inl rfl | exact .inr (.inl rfl) | exact .inr (.inr rfl))))) pd_int) pl_nil)) pd_int)) (sd_one (sd_ret (pd_bin od_mod op_mod (pd_toInt rfl (mgn M (by kernel_rfl)) (pl_cons (pd_bin od_mul or_mul (pd_v rfl (by first | exact .inl rfl | exact .inr (.inl rfl) | exact .inr (.inr rfl))) (pd_bin od_add or_add pd_int (pd_bin od_mul or_mul pd_int (pd_v rfl (by first | exact .inl rfl | exact .inr (.inl rfl) | exact .inr (.inr rfl)))))) pl_nil)) pd_int))))
def F__law_stream : ST := (retS (newE (consL (ifE (isB (bin geF (var 0) (bin powF (cst (.int 10)) (cst (.int 18))))) (var 0) (cst (.int 0))) (consL (cst (.int 0)) (consL (callF D__law_mixed [] (consL (var 0) (consL (var 1) nilL))) nilL)))))
def D__law_stream : FD := runF 2 F__law_stream
theorem fn__law_stream (w : World) (mg : Str → Option Value) (base : Heap) (M : L2.Mod (KK w) mg base) (TB : TBS CSP mg base) : Fn PP w (KK w) mg base TT 3 "_law_stream" (["item", "k"] : List Str) [] D__law_stream := by
  have nd : ((["item", "k"] : List Str)).Nodup := by decide
  refine ⟨347, _, fn_d (N := (["item", "k"] : List Str)) (ps := (["item", "k"] : List Str)) (F := F__law_stream) rfl (by kernel_rfl) (C8.fnScope_by (by rfl)) ?_, mg_some M.kin M.glob (by kernel_rfl), by kernel_rfl, Binds.all fun us hl => match us, hl with | [a0, a1], _ => rfl, (fun _ h => nomatch h)⟩
  intro A outer s H E rg tk pso
  unfold F__law_stream
  exact (sd_one (sd_ret (pd_newL (pl_cons (pd_if (td_ge (pd_v rfl (by first | exact .inl rfl | exact .inr (.inl rfl) | exact .inr (.inr rfl))) (pd_bin od_pow op_pow pd_int pd_int)) (pd_v rfl (by first | exact .inl rfl | exact .inr (.inl rfl) | exact .inr (.inr rfl))) pd_int) (pl_cons pd_int (pl_cons (pd_fn (fn__law_mixed w mg base M TB) rg (by decide) tk rfl (pl_cons (pd_v rfl (by first | exact .inl rfl | exact .inr (.inl rfl) | exact .inr (.inr rfl))) (pl_cons (pd_v rfl (by first | exact .inl rfl | exact .inr (.inl rfl) | exact .inr (.inr rfl))) pl_nil))) pl_nil))))))
def F__law_draw : ST := (seqS (setIxS (bin addF (bin ixF (var 0) (cst (.int 1))) (cst (.int 1))) (var 0) (cst (.int 1))) (seqS (ifS (isB (bin eqF (bin ixF (var 0) (cst (.int 0))) (cst (.int 0)))) (retS (bin modF (callE intCF (consL (callF D__law_mixed [] (consL (callF D__law_mixed [] (consL (bin ixF (var 0) (cst (.int 2))) (consL (bin ixF (var 0) (cst (.int 1))) nilL))) (consL (cst (.int 7)) nilL))) nilL)) (var 1))) nextS) (seqS (setS 2 (bin modF (callE intCF (consL (bin ixF (var 0) (cst (.int 0))) nilL)) (var 1))) (seqS (setIxS (bin fdivF (bin ixF (var 0) (cst (.int 0))) (var 1)) (var 0) (cst (.int 0))) (retS (var 2))))))
def D__law_draw : FD := runF 3 F__law_draw
theorem fn__law_draw (w : World) (mg : Str → Option Value) (base : Heap) (M : L2.Mod (KK w) mg base) (TB : TBS CSP mg base) : Fn PP w (KK w) mg base TT 6 "_law_draw" (["stream", "top"] : List Str) [] D__law_draw := by
  have nd : ((["stream", "top", "number"] : List Str)).Nodup := by decide
  refine ⟨354, _, fn_d (N := (["stream", "top", "number"] : List Str)) (ps := (["stream", "top"] : List Str)) (F := F__law_draw) rfl (by kernel_rfl) (C8.fnScope_by (by rfl)) ?_, mg_some M.kin M.glob (by kernel_rfl), by kernel_rfl, Binds.all fun us hl => match us, hl with | [a0, a1], _ => rfl, (fun _ h => nomatch h)⟩
  intro A outer s H E rg tk pso
  unfold F__law_draw
  exact (sd_cons (sd_setIx (pd_bin od_add or_add (pd_ix (pd_v rfl (by first | exact .inl rfl | exact .inr (.inl rfl) | exact .inr (.inr rfl))) pd_int) pd_int) (pd_v rfl (by first | exact .inl rfl | exact .inr (.inl rfl) | exact .inr (.inr rfl))) pd_int) (sd_cons (sd_if (td_eq (rg.mono (by decide)) (pd_ix (pd_v rfl (by first | exact .inl rfl | exact .inr (.inl rfl) | exact .inr (.inr rfl))) pd_int) pd_int) (sd_one (sd_ret (pd_bin od_mod op_mod (pd_toInt rfl (mgn M (by kernel_rfl)) (pl_cons (pd_fn (fn__law_mixed w mg base M TB) rg (by decide) tk rfl (pl_cons (pd_fn (fn__law_mixed w mg base M TB) rg (by decide) tk rfl (pl_cons (pd_ix (pd_v rfl (by first | exact .inl rfl | exact .inr (.inl rfl) | exact .inr (.inr rfl))) pd_int) (pl_cons (pd_ix (pd_v rfl (by first | exact .inl rfl | exact .inr (.inl rfl) | exact .inr (.inr rfl))) pd_int) pl_nil))) (pl_cons pd_int pl_nil))) pl_nil)) (pd_v rfl (by first | exact .inl rfl | exact .inr (.inl rfl) | exact .inr (.inr rfl)))))) sd_nil) (sd_cons (sd_set nd rfl (by first | exact .inl rfl | exact .inr rfl) (pd_bin od_mod op_mod (pd_toInt rfl (mgn M (by kernel_rfl)) (pl_cons (pd_ix (pd_v rfl (by first | exact .inl rfl | exact .inr (.inl rfl) | exact .inr (.inr rfl))) pd_int) pl_nil)) (pd_v rfl (by first | exact .inl rfl | exact .inr (.inl rfl) | exact .inr (.inr rfl))))) (sd_cons (sd_setIx (pd_bin od_fdiv op_fdivW (pd_ix (pd_v rfl (by first | exact .inl rfl | exact .inr (.inl rfl) | exact .inr (.inr rfl))) pd_int) (pd_v rfl (by first | exact .inl rfl | exact .inr (.inl rfl) | exact .inr (.inr rfl)))) (pd_v rfl (by first | exact .inl rfl | exact .inr (.inl rfl) | exact .inr (.inr rfl))) pd_int) (sd_one (sd_ret (pd_v rfl (by first | exact .inl rfl | exact .inr (.inl rfl) | exact .inr (.inr rfl)))))))))
def F__law_pick : ST := (retS (bin ixF (var 1) (callF D__law_draw [] (consL (var 0) (consL (callE lenF (consL (var 1) nilL)) nilL)))))
def D__law_pick : FD := runF 2 F__law_pick
theorem fn__law_pick (w : World) (mg : Str → Option Value) (base : Heap) (M : L2.Mod (KK w) mg base) (TB : TBS CSP mg base) : Fn PP w (KK w) mg base TT 7 "_law_pick" (["stream", "some"] : List Str) [] D__law_pick := by
  have nd : ((["stream", "some"] : List Str)).Nodup := by decide
  refine ⟨361, _, fn_d (N := (["stream", "some"] : List Str)) (ps := (["stream", "some"] : List Str)) (F := F__law_pick) rfl (by kernel_rfl) (C8.fnScope_by (by rfl)) ?_, mg_some M.kin M.glob (by kernel_rfl), by kernel_rfl, Binds.all fun us hl => match us, hl with | [a0, a1], _ => rfl, (fun _ h => nomatch h)⟩
  intro A outer s H E rg tk pso
  unfold F__law_pick
  exact (sd_one (sd_ret (pd_ix (pd_v rfl (by first | exact .inl rfl | exact .inr (.inl rfl) | exact .inr (.inr rfl))) (pd_fn (fn__law_draw w mg base M TB) rg (by decide) tk rfl (pl_cons (pd_v rfl (by first | exact .inl rfl | exact .inr (.inl rfl) | exact .inr (.inr rfl))) (pl_cons (pd_len rfl (mgn M (by kernel_rfl)) (pl_cons (pd_v rfl (by first | exact .inl rfl | exact .inr (.inl rfl) | exact .inr (.inr rfl))) pl_nil)) pl_nil))))))
def F_Edit_low : ST := (retS (fldE TT [4] "own_low" (var 0)))
def D_Edit_low : FD := runF 1 F_Edit_low
theorem fa_Edit_low (w : World) (mg : Str → Option Value) (base : Heap) (M : L2.Mod (KK w) mg base) (TB : TBS CSP mg base) : FnAt PP w (KK w) mg base TT 2 258 (["self"] : List Str) [] D_Edit_low := by
  have nd : ((["self"] : List Str)).Nodup := by decide
  refine ⟨_, fn_d (N := (["self"] : List Str)) (ps := (["self"] : List Str)) (F := F_Edit_low) rfl (by kernel_rfl) (C8.fnScope_by (by rfl)) ?_, Binds.all fun us hl => match us, hl with | [a0], _ => rfl, (fun _ h => nomatch h)⟩
  intro A outer s H E rg tk pso
  unfold F_Edit_low
  exact (sd_one (sd_ret (pd_fld (fo_own_low w) (pd_v rfl (by first | exact .inl rfl | exact .inr (.inl rfl) | exact .inr (.inr rfl))))))
def disp_low : Nat → Option FD := fun c => if c = 4 then some D_Edit_low else none
theorem pr_low (w : World) (mg : Str → Option Value) (base : Heap) (M : L2.Mod (KK w) mg base) (TB : TBS CSP mg base) : PropOk PP w (KK w) mg base TT 2 "low" disp_low := ⟨fun c F h => by
    unfold disp_low at h
    split at h
    · rename_i e; subst e; cases h; exact ⟨259, 258, (ins_ok w 4 (by decide) (by decide)).cl, ⟨by kernel_rfl, by kernel_rfl, by kernel_rfl, rec_by (by kernel_rfl)⟩, (fa_Edit_low w mg base M TB).mono (by decide)⟩
    cases h⟩
def F_Edit_high : ST := (retS (fldE TT [4] "own_high" (var 0)))
def D_Edit_high : FD := runF 1 F_Edit_high
theorem fa_Edit_high (w : World) (mg : Str → Option Value) (base : Heap) (M : L2.Mod (KK w) mg base) (TB : TBS CSP mg base) : FnAt PP w (KK w) mg base TT 2 266 (["self"] : List Str) [] D_Edit_high := by
  have nd : ((["self"] : List Str)).Nodup := by decide
  refine ⟨_, fn_d (N := (["self"] : List Str)) (ps := (["self"] : List Str)) (F := F_Edit_high) rfl (by kernel_rfl) (C8.fnScope_by (by rfl)) ?_, Binds.all fun us hl => match us, hl with | [a0], _ => rfl, (fun _ h => nomatch h)⟩
  intro A outer s H E rg tk pso
  unfold F_Edit_high
  exact (sd_one (sd_ret (pd_fld (fo_own_high w) (pd_v rfl (by first | exact .inl rfl | exact .inr (.inl rfl) | exact .inr (.inr rfl))))))
def disp_high : Nat → Option FD := fun c => if c = 4 then some D_Edit_high else none
theorem pr_high (w : World) (mg : Str → Option Value) (base : Heap) (M : L2.Mod (KK w) mg base) (TB : TBS CSP mg base) : PropOk PP w (KK w) mg base TT 2 "high" disp_high := ⟨fun c F h => by
    unfold disp_high at h
    split at h
    · rename_i e; subst e; cases h; exact ⟨267, 266, (ins_ok w 4 (by decide) (by decide)).cl, ⟨by kernel_rfl, by kernel_rfl, by kernel_rfl, rec_by (by kernel_rfl)⟩, (fa_Edit_high w mg base M TB).mono (by decide)⟩
    cases h⟩
def F_Edit_fresh : ST := (retS (fldE TT [4] "own_fresh" (var 0)))
def D_Edit_fresh : FD := runF 1 F_Edit_fresh
theorem fa_Edit_fresh (w : World) (mg : Str → Option Value) (base : Heap) (M : L2.Mod (KK w) mg base) (TB : TBS CSP mg base) : FnAt PP w (KK w) mg base TT 2 274 (["self"] : List Str) [] D_Edit_fresh := by
  have nd : ((["self"] : List Str)).Nodup := by decide
  refine ⟨_, fn_d (N := (["self"] : List Str)) (ps := (["self"] : List Str)) (F := F_Edit_fresh) rfl (by kernel_rfl) (C8.fnScope_by (by rfl)) ?_, Binds.all fun us hl => match us, hl with | [a0], _ => rfl, (fun _ h => nomatch h)⟩
  intro A outer s H E rg tk pso
  unfold F_Edit_fresh
  exact (sd_one (sd_ret (pd_fld (fo_own_fresh w) (pd_v rfl (by first | exact .inl rfl | exact .inr (.inl rfl) | exact .inr (.inr rfl))))))
def disp_fresh : Nat → Option FD := fun c => if c = 4 then some D_Edit_fresh else none
theorem pr_fresh (w : World) (mg : Str → Option Value) (base : Heap) (M : L2.Mod (KK w) mg base) (TB : TBS CSP mg base) : PropOk PP w (KK w) mg base TT 2 "fresh" disp_fresh := ⟨fun c F h => by
    unfold disp_fresh at h
    split at h
    · rename_i e; subst e; cases h; exact ⟨275, 274, (ins_ok w 4 (by decide) (by decide)).cl, ⟨by kernel_rfl, by kernel_rfl, by kernel_rfl, rec_by (by kernel_rfl)⟩, (fa_Edit_fresh w mg base M TB).mono (by decide)⟩
    cases h⟩
def E__law_signs_1 : E1 := (callF D__law_pick [] (consL (var 0) (consL (lstE (consL (cst (.str "a")) (consL (cst (.str "b")) (consL (cst (.str "\n")) (consL (cst (.str " ")) (consL (cst (.str "a")) (consL (cst (.str "c")) nilL))))))) nilL)))
def F__law_signs : ST := (seqS (setS 2 (callF D__law_draw [] (consL (var 0) (consL (bin addF (var 1) (cst (.int 1))) nilL)))) (retS (methE "str" joinF (cst (.str "")) (consL (lcE [3] (rngF (consL (var 2) nilL)) (gNm 3) yesB E__law_signs_1) nilL))))
def D__law_signs : FD := runF 4 F__law_signs
theorem fn__law_signs (w : World) (mg : Str → Option Value) (base : Heap) (M : L2.Mod (KK w) mg base) (TB : TBS CSP mg base) : Fn PP w (KK w) mg base TT 8 "_law_signs" (["stream", "most"] : List Str) [] D__law_signs := by
  have nd : ((["stream", "most", "many", "turn"] : List Str)).Nodup := by decide
  refine ⟨366, _, fn_d (N := (["stream", "most", "many", "turn"] : List Str)) (ps := (["stream", "most"] : List Str)) (F := F__law_signs) rfl (by kernel_rfl) (C8.fnScope_by (by rfl)) ?_, mg_some M.kin M.glob (by kernel_rfl), by kernel_rfl, Binds.all fun us hl => match us, hl with | [a0, a1], _ => rfl, (fun _ h => nomatch h)⟩
  intro A outer s H E rg tk pso
  unfold F__law_signs
  unfold E__law_signs_1
  exact (sd_cons (sd_set nd rfl (by first | exact .inl rfl | exact .inr rfl) (pd_fn (fn__law_draw w mg base M TB) rg (by decide) tk rfl (pl_cons (pd_v rfl (by first | exact .inl rfl | exact .inr (.inl rfl) | exact .inr (.inr rfl))) (pl_cons (pd_bin od_add or_add (pd_v rfl (by first | exact .inl rfl | exact .inr (.inl rfl) | exact .inr (.inr rfl))) pd_int) pl_nil)))) (sd_one (sd_ret (pd_meth md_join F.plainAttrs_str F.slot_str_join (by kernel_rfl) mt_join pd_str (pl_cons (pd_lc rfl nd (own := [("turn", 3)]) (pid_rng rfl (mgn M (by kernel_rfl)) (pl_cons (pd_v rfl (by first | exact .inl rfl | exact .inr (.inl rfl) | exact .inr (.inr rfl))) pl_nil)) rfl (by decide) (fun _ _ _ _ _ => (gd_name nd rfl (by first | exact .inl rfl | exact .inr rfl) (by first | exact .inl rfl | exact .inr rfl))) (fun _ _ _ _ _ => ptd_nil) (fun _ _ _ _ _ => (pd_fn (fn__law_pick w mg base M TB) rg (by decide) takes_blk rfl (pl_cons (pd_v rfl (by first | exact .inl rfl | exact .inr (.inl rfl) | exact .inr (.inr rfl))) (pl_cons (pd_lst (pl_cons pd_str (pl_cons pd_str (pl_cons pd_str (pl_cons pd_str (pl_cons pd_str (pl_cons pd_str pl_nil))))))) pl_nil))))) pl_nil)))))
def F__law_cut : ST := (seqS (setS 2 (callF D__law_draw [] (consL (var 0) (consL (bin addF (callE lenF (consL (var 1) nilL)) (cst (.int 1))) nilL)))) (seqS (setS 3 (callE minF (consL (callE lenF (consL (var 1) nilL)) (consL (bin addF (var 2) (callF D__law_pick [] (consL (var 0) (consL (lstE (consL (cst (.int 0)) (consL (cst (.int 0)) (consL (cst (.int 1)) (consL (cst (.int 2)) (consL (cst (.int 4)) (consL (cst (.int 50)) nilL))))))) nilL)))) nilL)))) (retS (tupE (consL (var 2) (consL (var 3) (consL (callF D__law_signs [] (consL (var 0) (consL (cst (.int 4)) nilL))) nilL)))))))
def D__law_cut : FD := runF 4 F__law_cut
theorem fn__law_cut (w : World) (mg : Str → Option Value) (base : Heap) (M : L2.Mod (KK w) mg base) (TB : TBS CSP mg base) : Fn PP w (KK w) mg base TT 9 "_law_cut" (["stream", "signs"] : List Str) [] D__law_cut := by
  have nd : ((["stream", "signs", "first", "last"] : List Str)).Nodup := by decide
  refine ⟨380, _, fn_d (N := (["stream", "signs", "first", "last"] : List Str)) (ps := (["stream", "signs"] : List Str)) (F := F__law_cut) rfl (by kernel_rfl) (C8.fnScope_by (by rfl)) ?_, mg_some M.kin M.glob (by kernel_rfl), by kernel_rfl, Binds.all fun us hl => match us, hl with | [a0, a1], _ => rfl, (fun _ h => nomatch h)⟩
  intro A outer s H E rg tk pso
  unfold F__law_cut
  exact (sd_cons (sd_set nd rfl (by first | exact .inl rfl | exact .inr rfl) (pd_fn (fn__law_draw w mg base M TB) rg (by decide) tk rfl (pl_cons (pd_v rfl (by first | exact .inl rfl | exact .inr (.inl rfl) | exact .inr (.inr rfl))) (pl_cons (pd_bin od_add or_add (pd_len rfl (mgn M (by kernel_rfl)) (pl_cons (pd_v rfl (by first | exact .inl rfl | exact .inr (.inl rfl) | exact .inr (.inr rfl))) pl_nil)) pd_int) pl_nil)))) (sd_cons (sd_set nd rfl (by first | exact .inl rfl | exact .inr rfl) (pd_min rfl rfl (mgn M (by kernel_rfl)) (pl_cons (pd_len rfl (mgn M (by kernel_rfl)) (pl_cons (pd_v rfl (by first | exact .inl rfl | exact .inr (.inl rfl) | exact .inr (.inr rfl))) pl_nil)) (pl_cons (pd_bin od_add or_add (pd_v rfl (by first | exact .inl rfl | exact .inr (.inl rfl) | exact .inr (.inr rfl))) (pd_fn (fn__law_pick w mg base M TB) rg (by decide) tk rfl (pl_cons (pd_v rfl (by first | exact .inl rfl | exact .inr (.inl rfl) | exact .inr (.inr rfl))) (pl_cons (pd_lst (pl_cons pd_int (pl_cons pd_int (pl_cons pd_int (pl_cons pd_int (pl_cons pd_int (pl_cons pd_int pl_nil))))))) pl_nil)))) pl_nil)))) (sd_one (sd_ret (pd_tup (pl_cons (pd_v rfl (by first | exact .inl rfl | exact .inr (.inl rfl) | exact .inr (.inr rfl))) (pl_cons (pd_v rfl (by first | exact .inl rfl | exact .inr (.inl rfl) | exact .inr (.inr rfl))) (pl_cons (pd_fn (fn__law_signs w mg base M TB) rg (by decide) tk rfl (pl_cons (pd_v rfl (by first | exact .inl rfl | exact .inr (.inl rfl) | exact .inr (.inr rfl))) (pl_cons pd_int pl_nil))) pl_nil))))))))
noncomputable def F__law_refused (g : S → R D) (l : D) : ST := (seqS (setS 1 (cst (.int 5))) (seqS (tryS (exprS (actE 0 l g)) (hdAs 4 HIT_BadText 2 (setS 1 (attrE TT 4 "place_index" (var 2))) hdN)) (retS (bin isF (var 1) (cst .non)))))
noncomputable def D__law_refused : FL := fun g l => runF 3 (F__law_refused g l) [l]
theorem gv__law_refused (w : World) (mg : Str → Option Value) (base : Heap) (M : L2.Mod (KK w) mg base) (TB : TBS CSP mg base) : Gives PP w (KK w) mg base TT 1 "_law_refused" "call" D__law_refused := by
  have nd : ((["call", "found", "e"] : List Str)).Nodup := by decide
  refine gives_d (g := 399) (N := (["call", "found", "e"] : List Str)) (Fb := F__law_refused) rfl (by kernel_rfl) (C8.fnScope_by (by rfl)) (mg_some M.kin M.glob (by kernel_rfl)) (by kernel_rfl) rfl (by first | exact .inl rfl | exact .inr (.inl rfl) | exact .inr (.inr rfl)) (Binds.all fun us hl => match us, hl with | [a0], _ => rfl) ?_
  intro A outer s H E l g rg tk pso act
  unfold F__law_refused
  exact (sd_cons (sd_set nd rfl (by first | exact .inl rfl | exact .inr rfl) pd_int) (sd_cons (sd_try rfl rfl (fun W2 pn xe tk pso => (sd_one (sd_expr (act _ _ _ _ _ tk)))) (hd_as rfl rfl rfl nd rfl rfl (fun c hc => asks1 ⟨rfl, mg_some M.kin M.glob (by kernel_rfl), by decide⟩ (hit_BadText w c hc)) (fun a pn => (sd_one (sd_set nd rfl (by first | exact .inl rfl | exact .inr rfl) (pd_attr (cls_ok w) (nof_place_index w) (pd_v rfl (by first | exact .inl rfl | exact .inr (.inl rfl) | exact .inr (.inr rfl))))))) (hd_nil rfl rfl tk))) (sd_one (sd_ret (pd_is (pd_v rfl (by first | exact .inl rfl | exact .inr (.inl rfl) | exact .inr (.inr rfl))) pd_non)))))
theorem refused_ok (g : S → R D) (l d : D) (m m1 : S) (h : g m = .ok d m1) : D__law_refused g l m = .ok (.bl false) m1 := by
  simp [D__law_refused, F__law_refused, runF, seqS, exprS, liftS, cst, tryS, setS, actE, h, DL.bin, DL.var, isF, DL.isNon, retS]
theorem refused_err (g : S → R D) (l : D) (c : Nat) (fs : List D) (m m1 : S) (h : g m = .err c fs m1) : D__law_refused g l m = D__law_refused (fun m => .err c fs m1) .non m := by
  by_cases hc : c < 4
  · have hx : c = 0 ∨ c = 1 ∨ c = 2 ∨ c = 3 := by omega
    rcases hx with rfl | rfl | rfl | rfl <;> cases fs <;>
    (simp [D__law_refused, F__law_refused, runF, seqS, exprS, liftS, cst, tryS, setS, actE, h, hdAs, hdN, goneO, HIT_BadText, attrE, TT, DL.bin, DL.var, isF, DL.isNon, retS]; try (first | rfl | (rename_i hd tl; cases hd <;> rfl)))
  · simp [D__law_refused, F__law_refused, runF, seqS, exprS, liftS, cst, tryS, setS, actE, h, hdAs, hdN, goneO, hc]
theorem refused_bad (g : S → R D) (l : D) (m : S) (h : g m = .bad) : D__law_refused g l m = .bad := by
  simp [D__law_refused, F__law_refused, runF, seqS, exprS, liftS, cst, tryS, setS, actE, h]
theorem blind__law_refused : ∀ g l m, D__law_refused g l m = D__law_refused g .non m := fun g l m => by
  cases e : g m with
  | ok d m1 => rw [refused_ok g l d m m1 e, refused_ok g .non d m m1 e]
  | err c fs m1 => rw [refused_err g l c fs m m1 e, refused_err g .non c fs m m1 e]
  | bad => rw [refused_bad g l m e, refused_bad g .non m e]
def B__law_ways_1 : ST := (ifS (andB (isB (bin eqF (slE (var 0) noP (someP (var 3))) (slE (var 1) noP (someP (var 3))))) (isB (bin eqF (slE (var 0) (someP (bin subF (callE lenF (consL (var 0) nilL)) (var 4))) noP) (slE (var 1) (someP (bin subF (callE lenF (consL (var 1) nilL)) (var 4))) noP)))) (exprS (methE "list" appendF (var 2) (consL (tupE (consL (var 3) (consL (var 4) nilL))) nilL))) nextS)
def B__law_ways_2 : ST := (forS (rngF (consL (bin addF (bin subF (callE minF (consL (callE lenF (consL (var 0) nilL)) (consL (callE lenF (consL (var 1) nilL)) nilL))) (var 3)) (cst (.int 1))) nilL)) (gNm 4) B__law_ways_1)
def F__law_ways : ST := (seqS (setS 2 (newE nilL)) (seqS (forS (rngF (consL (bin addF (callE minF (consL (callE lenF (consL (var 0) nilL)) (consL (callE lenF (consL (var 1) nilL)) nilL))) (cst (.int 1))) nilL)) (gNm 3) B__law_ways_2) (retS (var 2))))
def D__law_ways : FD := frz (runF 5 F__law_ways)
theorem fn__law_ways (w : World) (mg : Str → Option Value) (base : Heap) (M : L2.Mod (KK w) mg base) (TB : TBS CSP mg base) : Fn PP w (KK w) mg base TT 6 "_law_ways" (["left", "right"] : List Str) [] D__law_ways := by
  have nd : ((["left", "right", "found", "front", "back"] : List Str)).Nodup := by decide
  refine Fn.frz (F := runF 5 F__law_ways) ?_
  refine ⟨387, _, fn_d (N := (["left", "right", "found", "front", "back"] : List Str)) (ps := (["left", "right"] : List Str)) (F := F__law_ways) rfl (by kernel_rfl) (C8.fnScope_by (by rfl)) ?_, mg_some M.kin M.glob (by kernel_rfl), by kernel_rfl, Binds.all fun us hl => match us, hl with | [a0, a1], _ => rfl, (fun _ h => nomatch h)⟩
  intro A outer s H E rg tk pso
  unfold F__law_ways
  unfold B__law_ways_2
  unfold B__law_ways_1
  exact (sd_cons (sd_set nd rfl (by first | exact .inl rfl | exact .inr rfl) (pd_newL pl_nil)) (sd_cons (sd_for pso rfl (pid_rng rfl (mgn M (by kernel_rfl)) (pl_cons (pd_bin od_add or_add (pd_min rfl rfl (mgn M (by kernel_rfl)) (pl_cons (pd_len rfl (mgn M (by kernel_rfl)) (pl_cons (pd_v rfl (by first | exact .inl rfl | exact .inr (.inl rfl) | exact .inr (.inr rfl))) pl_nil)) (pl_cons (pd_len rfl (mgn M (by kernel_rfl)) (pl_cons (pd_v rfl (by first | exact .inl rfl | exact .inr (.inl rfl) | exact .inr (.inr rfl))) pl_nil)) pl_nil))) pd_int) pl_nil)) (gd_name nd rfl (by first | exact .inl rfl | exact .inr rfl) (by first | exact .inl rfl | exact .inr rfl)) (sd_one (sd_for pso rfl (pid_rng rfl (mgn M (by kernel_rfl)) (pl_cons (pd_bin od_add or_add (pd_bin od_sub op_sub (pd_min rfl rfl (mgn M (by kernel_rfl)) (pl_cons (pd_len rfl (mgn M (by kernel_rfl)) (pl_cons (pd_v rfl (by first | exact .inl rfl | exact .inr (.inl rfl) | exact .inr (.inr rfl))) pl_nil)) (pl_cons (pd_len rfl (mgn M (by kernel_rfl)) (pl_cons (pd_v rfl (by first | exact .inl rfl | exact .inr (.inl rfl) | exact .inr (.inr rfl))) pl_nil)) pl_nil))) (pd_v rfl (by first | exact .inl rfl | exact .inr (.inl rfl) | exact .inr (.inr rfl)))) pd_int) pl_nil)) (gd_name nd rfl (by first | exact .inl rfl | exact .inr rfl) (by first | exact .inl rfl | exact .inr rfl)) (sd_one (sd_if (PW.pt (tw_and (td_eq (rg.mono (by decide)) (pd_slice (pd_v rfl (by first | exact .inl rfl | exact .inr (.inl rfl) | exact .inr (.inr rfl))) pp_none (pp_some (pd_v rfl (by first | exact .inl rfl | exact .inr (.inl rfl) | exact .inr (.inr rfl))))) (pd_slice (pd_v rfl (by first | exact .inl rfl | exact .inr (.inl rfl) | exact .inr (.inr rfl))) pp_none (pp_some (pd_v rfl (by first | exact .inl rfl | exact .inr (.inl rfl) | exact .inr (.inr rfl)))))) (tw_and1 (td_eq (rg.mono (by decide)) (pd_slice (pd_v rfl (by first | exact .inl rfl | exact .inr (.inl rfl) | exact .inr (.inr rfl))) (pp_some (pd_bin od_sub op_sub (pd_len rfl (mgn M (by kernel_rfl)) (pl_cons (pd_v rfl (by first | exact .inl rfl | exact .inr (.inl rfl) | exact .inr (.inr rfl))) pl_nil)) (pd_v rfl (by first | exact .inl rfl | exact .inr (.inl rfl) | exact .inr (.inr rfl))))) pp_none) (pd_slice (pd_v rfl (by first | exact .inl rfl | exact .inr (.inl rfl) | exact .inr (.inr rfl))) (pp_some (pd_bin od_sub op_sub (pd_len rfl (mgn M (by kernel_rfl)) (pl_cons (pd_v rfl (by first | exact .inl rfl | exact .inr (.inl rfl) | exact .inr (.inr rfl))) pl_nil)) (pd_v rfl (by first | exact .inl rfl | exact .inr (.inl rfl) | exact .inr (.inr rfl))))) pp_none))))) (sd_one (sd_expr (pd_meth md_append F.plainAttrs_list F.slot_list_append (by kernel_rfl) mt_append (pd_v rfl (by first | exact .inl rfl | exact .inr (.inl rfl) | exact .inr (.inr rfl))) (pl_cons (pd_tup (pl_cons (pd_v rfl (by first | exact .inl rfl | exact .inr (.inl rfl) | exact .inr (.inr rfl))) (pl_cons (pd_v rfl (by first | exact .inl rfl | exact .inr (.inl rfl) | exact .inr (.inr rfl))) pl_nil))) pl_nil)))) sd_nil))))) (sd_one (sd_ret (pd_v rfl (by first | exact .inl rfl | exact .inr (.inl rfl) | exact .inr (.inr rfl)))))))
def F__law_place : ST := (seqS (setS 2 (slE (var 0) noP (someP (var 1)))) (retS (tupE (consL (methE "str" countF (var 2) (consL (cst (.str "\n")) nilL)) (consL (bin subF (bin subF (callE lenF (consL (var 2) nilL)) (cst (.int 1))) (methE "str" rfindF (var 2) (consL (cst (.str "\n")) nilL))) nilL)))))
def D__law_place : FD := runF 3 F__law_place
theorem fn__law_place (w : World) (mg : Str → Option Value) (base : Heap) (M : L2.Mod (KK w) mg base) (TB : TBS CSP mg base) : Fn PP w (KK w) mg base TT 2 "_law_place" (["signs", "at"] : List Str) [] D__law_place := by
  have nd : ((["signs", "at", "front"] : List Str)).Nodup := by decide
  refine ⟨373, _, fn_d (N := (["signs", "at", "front"] : List Str)) (ps := (["signs", "at"] : List Str)) (F := F__law_place) rfl (by kernel_rfl) (C8.fnScope_by (by rfl)) ?_, mg_some M.kin M.glob (by kernel_rfl), by kernel_rfl, Binds.all fun us hl => match us, hl with | [a0, a1], _ => rfl, (fun _ h => nomatch h)⟩
  intro A outer s H E rg tk pso
  unfold F__law_place
  exact (sd_cons (sd_set nd rfl (by first | exact .inl rfl | exact .inr rfl) (pd_slice (pd_v rfl (by first | exact .inl rfl | exact .inr (.inl rfl) | exact .inr (.inr rfl))) pp_none (pp_some (pd_v rfl (by first | exact .inl rfl | exact .inr (.inl rfl) | exact .inr (.inr rfl)))))) (sd_one (sd_ret (pd_tup (pl_cons (pd_meth md_count F.plainAttrs_str F.slot_str_count (by kernel_rfl) mt_count (pd_v rfl (by first | exact .inl rfl | exact .inr (.inl rfl) | exact .inr (.inr rfl))) (pl_cons pd_str pl_nil)) (pl_cons (pd_bin od_sub op_sub (pd_bin od_sub op_sub (pd_len rfl (mgn M (by kernel_rfl)) (pl_cons (pd_v rfl (by first | exact .inl rfl | exact .inr (.inl rfl) | exact .inr (.inr rfl))) pl_nil)) pd_int) (pd_meth md_rfind F.plainAttrs_str F.slot_str_rfind (by kernel_rfl) mt_rfind (pd_v rfl (by first | exact .inl rfl | exact .inr (.inl rfl) | exact .inr (.inr rfl))) (pl_cons pd_str pl_nil))) pl_nil))))))
def E_found_index_1 : E1 := (bin addF (callE lenF (consL (var 5) nilL)) (cst (.int 1)))
def F_found_index : ST := (seqS (setS 2 (methE "str" splitF (var 0) (consL (cst (.str "\n")) nilL))) (seqS (asgS (var 1) (gTp 2 (gCn (gNm 3) (gCn (gNm 4) gNl)))) (seqS (ifS (orB (isB (bin geF (var 3) (callE lenF (consL (var 2) nilL)))) (isB (bin gtF (var 4) (callE lenF (consL (bin ixF (var 2) (var 3)) nilL))))) (retS (negE (cst (.int 1)))) nextS) (retS (bin addF (callE sumF (consL (lcE [5] (itE itF (slE (var 2) noP (someP (var 3)))) (gNm 5) yesB E_found_index_1) nilL)) (var 4))))))
def D_found_index : FD := runF 6 F_found_index
theorem fn_found_index (w : World) (mg : Str → Option Value) (base : Heap) (M : L2.Mod (KK w) mg base) (TB : TBS CSP mg base) : Fn PP w (KK w) mg base TT 2 "found_index" (["text", "place"] : List Str) [] D_found_index := by
  have nd : ((["text", "place", "lines", "line", "column", "one"] : List Str)).Nodup := by decide
  refine ⟨199, _, fn_d (N := (["text", "place", "lines", "line", "column", "one"] : List Str)) (ps := (["text", "place"] : List Str)) (F := F_found_index) rfl (by kernel_rfl) (C8.fnScope_by (by rfl)) ?_, mg_some M.kin M.glob (by kernel_rfl), by kernel_rfl, Binds.all fun us hl => match us, hl with | [a0, a1], _ => rfl, (fun _ h => nomatch h)⟩
  intro A outer s H E rg tk pso
  unfold F_found_index
  unfold E_found_index_1
  exact (sd_cons (sd_set nd rfl (by first | exact .inl rfl | exact .inr rfl) (pd_meth md_split F.plainAttrs_str F.slot_str_split (by kernel_rfl) mt_split (pd_v rfl (by first | exact .inl rfl | exact .inr (.inl rfl) | exact .inr (.inr rfl))) (pl_cons pd_str pl_nil))) (sd_cons (sd_asg (pd_v rfl (by first | exact .inl rfl | exact .inr (.inl rfl) | exact .inr (.inr rfl))) (gd_tup rfl (gd_cons (gd_name nd rfl (by first | exact .inl rfl | exact .inr rfl) (by first | exact .inl rfl | exact .inr rfl)) (gd_cons (gd_name nd rfl (by first | exact .inl rfl | exact .inr rfl) (by first | exact .inl rfl | exact .inr rfl)) gd_nil)))) (sd_cons (sd_if (PW.pt (tw_or (td_ge (pd_v rfl (by first | exact .inl rfl | exact .inr (.inl rfl) | exact .inr (.inr rfl))) (pd_len rfl (mgn M (by kernel_rfl)) (pl_cons (pd_v rfl (by first | exact .inl rfl | exact .inr (.inl rfl) | exact .inr (.inr rfl))) pl_nil))) (tw_or1 (td_gt (pd_v rfl (by first | exact .inl rfl | exact .inr (.inl rfl) | exact .inr (.inr rfl))) (pd_len rfl (mgn M (by kernel_rfl)) (pl_cons (pd_ix (pd_v rfl (by first | exact .inl rfl | exact .inr (.inl rfl) | exact .inr (.inr rfl))) (pd_v rfl (by first | exact .inl rfl | exact .inr (.inl rfl) | exact .inr (.inr rfl)))) pl_nil)))))) (sd_one (sd_ret (pd_neg pd_int))) sd_nil) (sd_one (sd_ret (pd_bin od_add or_add (pd_sum rfl rfl (mgn M (by kernel_rfl)) (pl_cons (pd_lc rfl nd (own := [("one", 5)]) (pid_list (pd_slice (pd_v rfl (by first | exact .inl rfl | exact .inr (.inl rfl) | exact .inr (.inr rfl))) pp_none (pp_some (pd_v rfl (by first | exact .inl rfl | exact .inr (.inl rfl) | exact .inr (.inr rfl)))))) rfl (by decide) (fun _ _ _ _ _ => (gd_name nd rfl (by first | exact .inl rfl | exact .inr rfl) (by first | exact .inl rfl | exact .inr rfl))) (fun _ _ _ _ _ => ptd_nil) (fun _ _ _ _ _ => (pd_bin od_add or_add (pd_len rfl (mgn M (by kernel_rfl)) (pl_cons (pd_v rfl (by first | exact .inl rfl | exact .inr (.inl rfl) | exact .inr (.inr rfl))) pl_nil)) pd_int))) pl_nil)) (pd_v rfl (by first | exact .inl rfl | exact .inr (.inl rfl) | exact .inr (.inr rfl)))))))))
def F_need_index : ST := (seqS (setS 2 (callF D_found_index [] (consL (var 0) (consL (var 1) nilL)))) (seqS (ifS (isB (bin lt2F (var 2) (cst (.int 0)))) (raiseS 3 (var 1)) nextS) (retS (var 2))))
def D_need_index : FD := runF 3 F_need_index
theorem fn_need_index (w : World) (mg : Str → Option Value) (base : Heap) (M : L2.Mod (KK w) mg base) (TB : TBS CSP mg base) : Fn PP w (KK w) mg base TT 6 "need_index" (["text", "place"] : List Str) [] D_need_index := by
  have nd : ((["text", "place", "found"] : List Str)).Nodup := by decide
  refine ⟨206, _, fn_d (N := (["text", "place", "found"] : List Str)) (ps := (["text", "place"] : List Str)) (F := F_need_index) rfl (by kernel_rfl) (C8.fnScope_by (by rfl)) ?_, mg_some M.kin M.glob (by kernel_rfl), by kernel_rfl, Binds.all fun us hl => match us, hl with | [a0, a1], _ => rfl, (fun _ h => nomatch h)⟩
  intro A outer s H E rg tk pso
  unfold F_need_index
  exact (sd_cons (sd_set nd rfl (by first | exact .inl rfl | exact .inr rfl) (pd_fn (fn_found_index w mg base M TB) rg (by decide) tk rfl (pl_cons (pd_v rfl (by first | exact .inl rfl | exact .inr (.inl rfl) | exact .inr (.inr rfl))) (pl_cons (pd_v rfl (by first | exact .inl rfl | exact .inr (.inl rfl) | exact .inr (.inr rfl))) pl_nil)))) (sd_cons (sd_if (td_lt2 rg (pd_v rfl (by first | exact .inl rfl | exact .inr (.inl rfl) | exact .inr (.inr rfl))) pd_int) (sd_one (sd_raise (mk_NoPlace w mg base M) (rg.mono (by decide)) (exc_NoPlace w) rfl rfl rfl (mg_some M.kin M.glob (by kernel_rfl)) rfl tk (pd_v rfl (by first | exact .inl rfl | exact .inr (.inl rfl) | exact .inr (.inr rfl))))) sd_nil) (sd_one (sd_ret (pd_v rfl (by first | exact .inl rfl | exact .inr (.inl rfl) | exact .inr (.inr rfl)))))))
def F_Edit___call__ : ST := (seqS (exprS (callF D_need_text [] (consL (var 1) nilL))) (seqS (parS 2 3 (consL (callF D_need_index [] (consL (var 1) (consL (fldE TT [4] "own_low" (var 0)) nilL))) (consL (callF D_need_index [] (consL (var 1) (consL (fldE TT [4] "own_high" (var 0)) nilL))) nilL))) (retS (bin addF (bin addF (slE (var 1) noP (someP (var 2))) (fldE TT [4] "own_fresh" (var 0))) (slE (var 1) (someP (var 3)) noP)))))
def D_Edit___call__ : FD := runF 4 F_Edit___call__
theorem fa_Edit___call__ (w : World) (mg : Str → Option Value) (base : Heap) (M : L2.Mod (KK w) mg base) (TB : TBS CSP mg base) : FnAt PP w (KK w) mg base TT 7 312 (["self", "text"] : List Str) [] D_Edit___call__ := by
  have nd : ((["self", "text", "first", "last"] : List Str)).Nodup := by decide
  refine ⟨_, fn_d (N := (["self", "text", "first", "last"] : List Str)) (ps := (["self", "text"] : List Str)) (F := F_Edit___call__) rfl (by kernel_rfl) (C8.fnScope_by (by rfl)) ?_, Binds.all fun us hl => match us, hl with | [a0, a1], _ => rfl, (fun _ h => nomatch h)⟩
  intro A outer s H E rg tk pso
  unfold F_Edit___call__
  exact (sd_cons (sd_expr (pd_fn (fn_need_text w mg base M TB) rg (by decide) tk rfl (pl_cons (pd_v rfl (by first | exact .inl rfl | exact .inr (.inl rfl) | exact .inr (.inr rfl))) pl_nil))) (sd_cons (sd_par rfl nd rfl rfl (by decide) rfl rfl (pl_cons (pd_fn (fn_need_index w mg base M TB) rg (by decide) tk rfl (pl_cons (pd_v rfl (by first | exact .inl rfl | exact .inr (.inl rfl) | exact .inr (.inr rfl))) (pl_cons (pd_fld (fo_own_low w) (pd_v rfl (by first | exact .inl rfl | exact .inr (.inl rfl) | exact .inr (.inr rfl)))) pl_nil))) (pl_cons (pd_fn (fn_need_index w mg base M TB) rg (by decide) tk rfl (pl_cons (pd_v rfl (by first | exact .inl rfl | exact .inr (.inl rfl) | exact .inr (.inr rfl))) (pl_cons (pd_fld (fo_own_high w) (pd_v rfl (by first | exact .inl rfl | exact .inr (.inl rfl) | exact .inr (.inr rfl)))) pl_nil))) pl_nil))) (sd_one (sd_ret (pd_bin od_add or_add (pd_bin od_add or_add (pd_slice (pd_v rfl (by first | exact .inl rfl | exact .inr (.inl rfl) | exact .inr (.inr rfl))) pp_none (pp_some (pd_v rfl (by first | exact .inl rfl | exact .inr (.inl rfl) | exact .inr (.inr rfl))))) (pd_fld (fo_own_fresh w) (pd_v rfl (by first | exact .inl rfl | exact .inr (.inl rfl) | exact .inr (.inr rfl))))) (pd_slice (pd_v rfl (by first | exact .inl rfl | exact .inr (.inl rfl) | exact .inr (.inr rfl))) (pp_some (pd_v rfl (by first | exact .inl rfl | exact .inr (.inl rfl) | exact .inr (.inr rfl)))) pp_none))))))
def disp___call__ : Nat → Option FD := fun c => if c = 4 then some D_Edit___call__ else none
theorem co_call (w : World) (mg : Str → Option Value) (base : Heap) (M : L2.Mod (KK w) mg base) (TB : TBS CSP mg base) : CallOk PP w (KK w) mg base TT 7 (["self", "text"] : List Str) [] disp___call__ := ⟨fun c F h => by
    unfold disp___call__ at h
    split at h
    · rename_i e; subst e; cases h; exact ⟨312, ⟨by kernel_rfl, by kernel_rfl, by kernel_rfl⟩, (fa_Edit___call__ w mg base M TB).mono (by decide)⟩
    cases h⟩
def F_Edit_is_idle : ST := (retS (andE (bin eqF (fldE TT [4] "own_low" (var 0)) (fldE TT [4] "own_high" (var 0))) (bin eqF (fldE TT [4] "own_fresh" (var 0)) (cst (.str "")))))
def D_Edit_is_idle : FD := runF 1 F_Edit_is_idle
theorem fa_Edit_is_idle (w : World) (mg : Str → Option Value) (base : Heap) (M : L2.Mod (KK w) mg base) (TB : TBS CSP mg base) : FnAt PP w (KK w) mg base TT 6 290 (["self"] : List Str) [] D_Edit_is_idle := by
  have nd : ((["self"] : List Str)).Nodup := by decide
  refine ⟨_, fn_d (N := (["self"] : List Str)) (ps := (["self"] : List Str)) (F := F_Edit_is_idle) rfl (by kernel_rfl) (C8.fnScope_by (by rfl)) ?_, Binds.all fun us hl => match us, hl with | [a0], _ => rfl, (fun _ h => nomatch h)⟩
  intro A outer s H E rg tk pso
  unfold F_Edit_is_idle
  exact (sd_one (sd_ret (pd_and (pd_eq (rg.mono (by decide)) (pd_fld (fo_own_low w) (pd_v rfl (by first | exact .inl rfl | exact .inr (.inl rfl) | exact .inr (.inr rfl)))) (pd_fld (fo_own_high w) (pd_v rfl (by first | exact .inl rfl | exact .inr (.inl rfl) | exact .inr (.inr rfl))))) (pd_one (pd_eq (rg.mono (by decide)) (pd_fld (fo_own_fresh w) (pd_v rfl (by first | exact .inl rfl | exact .inr (.inl rfl) | exact .inr (.inr rfl)))) pd_str)))))
def disp_is_idle : Nat → Option FD := fun c => if c = 4 then some D_Edit_is_idle else none
theorem pr_is_idle (w : World) (mg : Str → Option Value) (base : Heap) (M : L2.Mod (KK w) mg base) (TB : TBS CSP mg base) : PropOk PP w (KK w) mg base TT 6 "is_idle" disp_is_idle := ⟨fun c F h => by
    unfold disp_is_idle at h
    split at h
    · rename_i e; subst e; cases h; exact ⟨291, 290, (ins_ok w 4 (by decide) (by decide)).cl, ⟨by kernel_rfl, by kernel_rfl, by kernel_rfl, rec_by (by kernel_rfl)⟩, (fa_Edit_is_idle w mg base M TB).mono (by decide)⟩
    cases h⟩
def F_added : ST := (seqS (ifS (isB (bin gtF (bin ixF (var 1) (cst (.int 0))) (cst (.int 0)))) (retS (tupE (consL (bin addF (bin ixF (var 0) (cst (.int 0))) (bin ixF (var 1) (cst (.int 0)))) (consL (bin ixF (var 1) (cst (.int 1))) nilL)))) nextS) (retS (tupE (consL (bin ixF (var 0) (cst (.int 0))) (consL (bin addF (bin ixF (var 0) (cst (.int 1))) (bin ixF (var 1) (cst (.int 1)))) nilL)))))
def D_added : FD := runF 2 F_added
theorem fn_added (w : World) (mg : Str → Option Value) (base : Heap) (M : L2.Mod (KK w) mg base) (TB : TBS CSP mg base) : Fn PP w (KK w) mg base TT 2 "added" (["one", "other"] : List Str) [] D_added := by
  have nd : ((["one", "other"] : List Str)).Nodup := by decide
  refine ⟨180, _, fn_d (N := (["one", "other"] : List Str)) (ps := (["one", "other"] : List Str)) (F := F_added) rfl (by kernel_rfl) (C8.fnScope_by (by rfl)) ?_, mg_some M.kin M.glob (by kernel_rfl), by kernel_rfl, Binds.all fun us hl => match us, hl with | [a0, a1], _ => rfl, (fun _ h => nomatch h)⟩
  intro A outer s H E rg tk pso
  unfold F_added
  exact (sd_cons (sd_if (td_gt (pd_ix (pd_v rfl (by first | exact .inl rfl | exact .inr (.inl rfl) | exact .inr (.inr rfl))) pd_int) pd_int) (sd_one (sd_ret (pd_tup (pl_cons (pd_bin od_add or_add (pd_ix (pd_v rfl (by first | exact .inl rfl | exact .inr (.inl rfl) | exact .inr (.inr rfl))) pd_int) (pd_ix (pd_v rfl (by first | exact .inl rfl | exact .inr (.inl rfl) | exact .inr (.inr rfl))) pd_int)) (pl_cons (pd_ix (pd_v rfl (by first | exact .inl rfl | exact .inr (.inl rfl) | exact .inr (.inr rfl))) pd_int) pl_nil))))) sd_nil) (sd_one (sd_ret (pd_tup (pl_cons (pd_ix (pd_v rfl (by first | exact .inl rfl | exact .inr (.inl rfl) | exact .inr (.inr rfl))) pd_int) (pl_cons (pd_bin od_add or_add (pd_ix (pd_v rfl (by first | exact .inl rfl | exact .inr (.inl rfl) | exact .inr (.inr rfl))) pd_int) (pd_ix (pd_v rfl (by first | exact .inl rfl | exact .inr (.inl rfl) | exact .inr (.inr rfl))) pd_int)) pl_nil))))))
def F_place_behind : ST := (retS (callF D_added [] (consL (var 0) (consL (callF D_shape_of [] (consL (var 1) nilL)) nilL))))
def D_place_behind : FD := runF 2 F_place_behind
theorem fn_place_behind (w : World) (mg : Str → Option Value) (base : Heap) (M : L2.Mod (KK w) mg base) (TB : TBS CSP mg base) : Fn PP w (KK w) mg base TT 3 "place_behind" (["place", "text"] : List Str) [] D_place_behind := by
  have nd : ((["place", "text"] : List Str)).Nodup := by decide
  refine ⟨187, _, fn_d (N := (["place", "text"] : List Str)) (ps := (["place", "text"] : List Str)) (F := F_place_behind) rfl (by kernel_rfl) (C8.fnScope_by (by rfl)) ?_, mg_some M.kin M.glob (by kernel_rfl), by kernel_rfl, Binds.all fun us hl => match us, hl with | [a0, a1], _ => rfl, (fun _ h => nomatch h)⟩
  intro A outer s H E rg tk pso
  unfold F_place_behind
  exact (sd_one (sd_ret (pd_fn (fn_added w mg base M TB) rg (by decide) tk rfl (pl_cons (pd_v rfl (by first | exact .inl rfl | exact .inr (.inl rfl) | exact .inr (.inr rfl))) (pl_cons (pd_fn (fn_shape_of w mg base M TB) rg (by decide) tk rfl (pl_cons (pd_v rfl (by first | exact .inl rfl | exact .inr (.inl rfl) | exact .inr (.inr rfl))) pl_nil)) pl_nil)))))
def F_Edit_new_high : ST := (retS (callF D_place_behind [] (consL (fldE TT [4] "own_low" (var 0)) (consL (fldE TT [4] "own_fresh" (var 0)) nilL))))
def D_Edit_new_high : FD := runF 1 F_Edit_new_high
theorem fa_Edit_new_high (w : World) (mg : Str → Option Value) (base : Heap) (M : L2.Mod (KK w) mg base) (TB : TBS CSP mg base) : FnAt PP w (KK w) mg base TT 4 282 (["self"] : List Str) [] D_Edit_new_high := by
  have nd : ((["self"] : List Str)).Nodup := by decide
  refine ⟨_, fn_d (N := (["self"] : List Str)) (ps := (["self"] : List Str)) (F := F_Edit_new_high) rfl (by kernel_rfl) (C8.fnScope_by (by rfl)) ?_, Binds.all fun us hl => match us, hl with | [a0], _ => rfl, (fun _ h => nomatch h)⟩
  intro A outer s H E rg tk pso
  unfold F_Edit_new_high
  exact (sd_one (sd_ret (pd_fn (fn_place_behind w mg base M TB) rg (by decide) tk rfl (pl_cons (pd_fld (fo_own_low w) (pd_v rfl (by first | exact .inl rfl | exact .inr (.inl rfl) | exact .inr (.inr rfl)))) (pl_cons (pd_fld (fo_own_fresh w) (pd_v rfl (by first | exact .inl rfl | exact .inr (.inl rfl) | exact .inr (.inr rfl)))) pl_nil)))))
def disp_new_high : Nat → Option FD := fun c => if c = 4 then some D_Edit_new_high else none
theorem pr_new_high (w : World) (mg : Str → Option Value) (base : Heap) (M : L2.Mod (KK w) mg base) (TB : TBS CSP mg base) : PropOk PP w (KK w) mg base TT 4 "new_high" disp_new_high := ⟨fun c F h => by
    unfold disp_new_high at h
    split at h
    · rename_i e; subst e; cases h; exact ⟨283, 282, (ins_ok w 4 (by decide) (by decide)).cl, ⟨by kernel_rfl, by kernel_rfl, by kernel_rfl, rec_by (by kernel_rfl)⟩, (fa_Edit_new_high w mg base M TB).mono (by decide)⟩
    cases h⟩
def F_Edit_opposite : ST := (seqS (exprS (callF D_need_text [] (consL (var 1) nilL))) (seqS (parS 2 3 (consL (callF D_need_index [] (consL (var 1) (consL (fldE TT [4] "own_low" (var 0)) nilL))) (consL (callF D_need_index [] (consL (var 1) (consL (fldE TT [4] "own_high" (var 0)) nilL))) nilL))) (retS (makeE true 4 D_Edit___init__ (consL (fldE TT [4] "own_low" (var 0)) (consL (propE disp_new_high (var 0)) (consL (slE (var 1) (someP (var 2)) (someP (var 3))) nilL)))))))
def D_Edit_opposite : FD := runF 4 F_Edit_opposite
theorem fa_Edit_opposite (w : World) (mg : Str → Option Value) (base : Heap) (M : L2.Mod (KK w) mg base) (TB : TBS CSP mg base) : FnAt PP w (KK w) mg base TT 10 319 (["self", "text"] : List Str) [] D_Edit_opposite := by
  have nd : ((["self", "text", "first", "last"] : List Str)).Nodup := by decide
  refine ⟨_, fn_d (N := (["self", "text", "first", "last"] : List Str)) (ps := (["self", "text"] : List Str)) (F := F_Edit_opposite) rfl (by kernel_rfl) (C8.fnScope_by (by rfl)) ?_, Binds.all fun us hl => match us, hl with | [a0, a1], _ => rfl, (fun _ h => nomatch h)⟩
  intro A outer s H E rg tk pso
  unfold F_Edit_opposite
  exact (sd_cons (sd_expr (pd_fn (fn_need_text w mg base M TB) rg (by decide) tk rfl (pl_cons (pd_v rfl (by first | exact .inl rfl | exact .inr (.inl rfl) | exact .inr (.inr rfl))) pl_nil))) (sd_cons (sd_par rfl nd rfl rfl (by decide) rfl rfl (pl_cons (pd_fn (fn_need_index w mg base M TB) rg (by decide) tk rfl (pl_cons (pd_v rfl (by first | exact .inl rfl | exact .inr (.inl rfl) | exact .inr (.inr rfl))) (pl_cons (pd_fld (fo_own_low w) (pd_v rfl (by first | exact .inl rfl | exact .inr (.inl rfl) | exact .inr (.inr rfl)))) pl_nil))) (pl_cons (pd_fn (fn_need_index w mg base M TB) rg (by decide) tk rfl (pl_cons (pd_v rfl (by first | exact .inl rfl | exact .inr (.inl rfl) | exact .inr (.inr rfl))) (pl_cons (pd_fld (fo_own_high w) (pd_v rfl (by first | exact .inl rfl | exact .inr (.inl rfl) | exact .inr (.inr rfl)))) pl_nil))) pl_nil))) (sd_one (sd_ret (pd_new (ct_Edit w mg base M TB) rg (by decide) tk rfl (by kernel_rfl) (pl_cons (pd_fld (fo_own_low w) (pd_v rfl (by first | exact .inl rfl | exact .inr (.inl rfl) | exact .inr (.inr rfl)))) (pl_cons (pd_prop (pr_new_high w mg base M TB) rg (by decide) (pd_v rfl (by first | exact .inl rfl | exact .inr (.inl rfl) | exact .inr (.inr rfl)))) (pl_cons (pd_slice (pd_v rfl (by first | exact .inl rfl | exact .inr (.inl rfl) | exact .inr (.inr rfl))) (pp_some (pd_v rfl (by first | exact .inl rfl | exact .inr (.inl rfl) | exact .inr (.inr rfl)))) (pp_some (pd_v rfl (by first | exact .inl rfl | exact .inr (.inl rfl) | exact .inr (.inr rfl))))) pl_nil))))))))
def disp_opposite : Nat → Option FD := fun c => if c = 4 then some D_Edit_opposite else none
theorem mt_opposite (w : World) (mg : Str → Option Value) (base : Heap) (M : L2.Mod (KK w) mg base) (TB : TBS CSP mg base) : MthOk PP w (KK w) mg base TT 10 "opposite" (["self", "text"] : List Str) [] disp_opposite := ⟨fun c F h => by
    unfold disp_opposite at h
    split at h
    · rename_i e; subst e; cases h; exact ⟨319, (ins_ok w 4 (by decide) (by decide)).cl, ⟨by kernel_rfl, by kernel_rfl, by kernel_rfl⟩, (fa_Edit_opposite w mg base M TB).mono (by decide), by decide⟩
    cases h⟩
def F_end_of : ST := (seqS (exprS (callF D_need_text [] (consL (var 0) nilL))) (retS (callF D_shape_of [] (consL (var 0) nilL))))
def D_end_of : FD := runF 1 F_end_of
theorem fn_end_of (w : World) (mg : Str → Option Value) (base : Heap) (M : L2.Mod (KK w) mg base) (TB : TBS CSP mg base) : Fn PP w (KK w) mg base TT 7 "end_of" (["text"] : List Str) [] D_end_of := by
  have nd : ((["text"] : List Str)).Nodup := by decide
  refine ⟨194, _, fn_d (N := (["text"] : List Str)) (ps := (["text"] : List Str)) (F := F_end_of) rfl (by kernel_rfl) (C8.fnScope_by (by rfl)) ?_, mg_some M.kin M.glob (by kernel_rfl), by kernel_rfl, Binds.all fun us hl => match us, hl with | [a0], _ => rfl, (fun _ h => nomatch h)⟩
  intro A outer s H E rg tk pso
  unfold F_end_of
  exact (sd_cons (sd_expr (pd_fn (fn_need_text w mg base M TB) rg (by decide) tk rfl (pl_cons (pd_v rfl (by first | exact .inl rfl | exact .inr (.inl rfl) | exact .inr (.inr rfl))) pl_nil))) (sd_one (sd_ret (pd_fn (fn_shape_of w mg base M TB) rg (by decide) tk rfl (pl_cons (pd_v rfl (by first | exact .inl rfl | exact .inr (.inl rfl) | exact .inr (.inr rfl))) pl_nil)))))
def F_Edit___eq__ : ST := (seqS (ifS (orB (notB (isB (callE (isiI 4 5 CS SUP) (consL (var 1) (consL (cst (.con (.ref 329))) nilL))))) (orB (isB (bin neF (fldE TT [4] "own_low" (var 0)) (fldE TT [4] "own_low" (var 1)))) (isB (bin neF (fldE TT [4] "own_high" (var 0)) (fldE TT [4] "own_high" (var 1)))))) (retS (cst (.bl false))) nextS) (retS (bin eqF (fldE TT [4] "own_fresh" (var 0)) (fldE TT [4] "own_fresh" (var 1)))))
def D_Edit___eq__ : FD := runF 2 F_Edit___eq__
theorem fa_Edit___eq__ (w : World) (mg : Str → Option Value) (base : Heap) (M : L2.Mod (KK w) mg base) (TB : TBS CSP mg base) : FnAt PP w (KK w) mg base TT 6 326 (["self", "other"] : List Str) [] D_Edit___eq__ := by
  have nd : ((["self", "other"] : List Str)).Nodup := by decide
  refine ⟨_, fn_d (N := (["self", "other"] : List Str)) (ps := (["self", "other"] : List Str)) (F := F_Edit___eq__) rfl (by kernel_rfl) (C8.fnScope_by (by rfl)) ?_, Binds.all fun us hl => match us, hl with | [a0, a1], _ => rfl, (fun _ h => nomatch h)⟩
  intro A outer s H E rg tk pso
  unfold F_Edit___eq__
  exact (sd_cons (sd_if (PW.pt (tw_or (td_not (td_val (pd_isiI (cls_ok w) (ins_ok w) (isi_okI w) rfl (mgn M (by kernel_rfl)) (pl_cons (pd_v rfl (by first | exact .inl rfl | exact .inr (.inl rfl) | exact .inr (.inr rfl))) (pl_cons (pd_own rfl (mg_some M.kin M.glob (by kernel_rfl))) pl_nil))))) (tw_or (td_ne (rg.mono (by decide)) (pd_fld (fo_own_low w) (pd_v rfl (by first | exact .inl rfl | exact .inr (.inl rfl) | exact .inr (.inr rfl)))) (pd_fld (fo_own_low w) (pd_v rfl (by first | exact .inl rfl | exact .inr (.inl rfl) | exact .inr (.inr rfl))))) (tw_or1 (td_ne (rg.mono (by decide)) (pd_fld (fo_own_high w) (pd_v rfl (by first | exact .inl rfl | exact .inr (.inl rfl) | exact .inr (.inr rfl)))) (pd_fld (fo_own_high w) (pd_v rfl (by first | exact .inl rfl | exact .inr (.inl rfl) | exact .inr (.inr rfl))))))))) (sd_one (sd_ret pd_bl)) sd_nil) (sd_one (sd_ret (pd_eq (rg.mono (by decide)) (pd_fld (fo_own_fresh w) (pd_v rfl (by first | exact .inl rfl | exact .inr (.inl rfl) | exact .inr (.inr rfl)))) (pd_fld (fo_own_fresh w) (pd_v rfl (by first | exact .inl rfl | exact .inr (.inl rfl) | exact .inr (.inr rfl))))))))
def disp___eq__ : Nat → Option FD := fun c => if c = 4 then some D_Edit___eq__ else none
def EQT : List Value := [.ref 329, .type "NoneType", .type "bool", .type "int", .type "str", .type "tuple", .type "list", .type "dict"]
theorem eq_own (w : World) (mg : Str → Option Value) (base : Heap) (M : L2.Mod (KK w) mg base) (TB : TBS CSP mg base) : EqOk PP w (KK w) mg base TT 6 (["self", "other"] : List Str) disp___eq__ (oksB [4] EQT) := ⟨fun c F h => (by
    unfold disp___eq__ at h
    split at h
    · rename_i e; subst e; cases h; exact ⟨326, by kernel_rfl, by kernel_rfl, (fa_Edit___eq__ w mg base M TB).mono (by decide), by kernel_rfl, by kernel_rfl⟩
    cases h), fst_by (by kernel_rfl)⟩
def E__law_right_1 : E1 := (bin addF (var 13) (var 14))
def E__law_right_2 : E1 := (var 12)
def T__law_right_3 : EB := (isB (bin (eqO TT disp___eq__ (oksB [4] EQT)) (bin addF (bin ixF (var 12) (cst (.int 0))) (bin ixF (var 12) (cst (.int 1)))) (var 3)))
def F__law_right : ST := (seqS (parS 6 7 (consL (cmE 329 D_Edit_between (consL (var 0) (consL (var 1) nilL))) (consL (cmK 329 D_Edit_between [0, 2, 1] (consL (var 1) (consL (var 0) nilL))) nilL))) (seqS (setS 2 (callF D__law_ways [] (consL (var 0) (consL (var 1) nilL)))) (seqS (setS 3 (callE (bestIF maxI) (consL (lcE [13, 14] (itE itF (var 2)) (gTp 2 (gCn (gNm 13) (gCn (gNm 14) gNl))) yesB E__law_right_1) nilL))) (seqS (setS 4 (callE (bestF maxP) (consL (lcE [12] (itE itF (var 2)) (gNm 12) T__law_right_3 E__law_right_2) nilL))) (seqS (parS 8 9 (consL (bin ixF (var 4) (cst (.int 0))) (consL (bin subF (callE lenF (consL (var 0) nilL)) (bin ixF (var 4) (cst (.int 1)))) nilL))) (seqS (setS 5 (makeE true 4 D_Edit___init__ (consL (callF D__law_place [] (consL (var 0) (consL (var 8) nilL))) (consL (callF D__law_place [] (consL (var 0) (consL (var 9) nilL))) (consL (slE (var 1) (someP (var 8)) (someP (bin subF (callE lenF (consL (var 1) nilL)) (bin ixF (var 4) (cst (.int 1)))))) nilL))))) (seqS (ifS (orB (isB (bin (neO TT disp___eq__ (oksB [4] EQT)) (var 6) (var 5))) (orB (isB (bin (neO TT disp___eq__ (oksB [4] EQT)) (var 7) (var 5))) (orB (isB (bin (neO TT disp___eq__ (oksB [4] EQT)) (callOE disp___call__ (var 6) (consL (var 0) nilL)) (var 1))) (isB (bin (neO TT disp___eq__ (oksB [4] EQT)) (cmE 329 D_Edit_between (consL (var 1) (consL (var 0) nilL))) (mthE disp_opposite (var 6) (consL (var 0) nilL))))))) (retS (cst (.bl false))) nextS) (seqS (parS 10 11 (consL (slE (var 0) (someP (var 8)) (someP (var 9))) (consL (propE disp_fresh (var 6)) nilL))) (seqS (ifS (andB (isB (bin (neO TT disp___eq__ (oksB [4] EQT)) (var 10) (cst (.str "")))) (andB (isB (bin (neO TT disp___eq__ (oksB [4] EQT)) (var 11) (cst (.str "")))) (orB (isB (bin (eqO TT disp___eq__ (oksB [4] EQT)) (bin ixF (var 10) (cst (.int 0))) (bin ixF (var 11) (cst (.int 0))))) (isB (bin (eqO TT disp___eq__ (oksB [4] EQT)) (bin ixF (var 10) (negE (cst (.int 1)))) (bin ixF (var 11) (negE (cst (.int 1))))))))) (retS (cst (.bl false))) nextS) (retS (andE (bin (eqO TT disp___eq__ (oksB [4] EQT)) (propE disp_is_idle (var 6)) (bin (eqO TT disp___eq__ (oksB [4] EQT)) (var 0) (var 1))) (orE (bin (neO TT disp___eq__ (oksB [4] EQT)) (var 0) (var 1)) (bin (eqO TT disp___eq__ (oksB [4] EQT)) (propE disp_low (var 6)) (callF D_end_of [] (consL (var 0) nilL)))))))))))))))
def D__law_right : FD := runF 15 F__law_right
theorem fn__law_right (w : World) (mg : Str → Option Value) (base : Heap) (M : L2.Mod (KK w) mg base) (TB : TBS CSP mg base) : Fn PP w (KK w) mg base TT 12 "_law_right" (["left", "far"] : List Str) [] D__law_right := by
  have nd : ((["left", "far", "ways", "most", "best", "due", "edit", "again", "first", "last", "gone", "fresh_so", "way", "front", "back"] : List Str)).Nodup := by decide
  refine ⟨392, _, fn_d (N := (["left", "far", "ways", "most", "best", "due", "edit", "again", "first", "last", "gone", "fresh_so", "way", "front", "back"] : List Str)) (ps := (["left", "far"] : List Str)) (F := F__law_right) rfl (by kernel_rfl) (C8.fnScope_by (by rfl)) ?_, mg_some M.kin M.glob (by kernel_rfl), by kernel_rfl, Binds.all fun us hl => match us, hl with | [a0, a1], _ => rfl, (fun _ h => nomatch h)⟩
  intro A outer s H E rg tk pso
  unfold F__law_right
  unfold T__law_right_3
  unfold E__law_right_2
  unfold E__law_right_1
  exact (sd_cons (sd_par rfl nd rfl rfl (by decide) rfl rfl (pl_cons (pd_cm (cm_Edit_between w mg base M TB) rg (by decide) tk rfl (pl_cons (pd_v rfl (by first | exact .inl rfl | exact .inr (.inl rfl) | exact .inr (.inr rfl))) (pl_cons (pd_v rfl (by first | exact .inl rfl | exact .inr (.inl rfl) | exact .inr (.inr rfl))) pl_nil))) (pl_cons (pd_cmK (ks := (["new", "old"] : List Str)) (idx := [0, 2, 1]) (cm_Edit_between w mg base M TB) rg (by decide) tk rfl (by simp) (kd_cons (pd_v rfl (by first | exact .inl rfl | exact .inr (.inl rfl) | exact .inr (.inr rfl))) (kd_cons (pd_v rfl (by first | exact .inl rfl | exact .inr (.inl rfl) | exact .inr (.inr rfl))) kd_nil))) pl_nil))) (sd_cons (sd_set nd rfl (by first | exact .inl rfl | exact .inr rfl) (pd_fn (fn__law_ways w mg base M TB) rg (by decide) tk rfl (pl_cons (pd_v rfl (by first | exact .inl rfl | exact .inr (.inl rfl) | exact .inr (.inr rfl))) (pl_cons (pd_v rfl (by first | exact .inl rfl | exact .inr (.inl rfl) | exact .inr (.inr rfl))) pl_nil)))) (sd_cons (sd_set nd rfl (by first | exact .inl rfl | exact .inr rfl) (pd_maxI rg rfl rfl (mgn M (by kernel_rfl)) (pl_cons (pd_lc rfl nd (own := [("front", 13), ("back", 14)]) (pid_list (pd_v rfl (by first | exact .inl rfl | exact .inr (.inl rfl) | exact .inr (.inr rfl)))) rfl (by decide) (fun _ _ _ _ _ => (gd_tup rfl (gd_cons (gd_name nd rfl (by first | exact .inl rfl | exact .inr rfl) (by first | exact .inl rfl | exact .inr rfl)) (gd_cons (gd_name nd rfl (by first | exact .inl rfl | exact .inr rfl) (by first | exact .inl rfl | exact .inr rfl)) gd_nil)))) (fun _ _ _ _ _ => ptd_nil) (fun _ _ _ _ _ => (pd_bin od_add or_add (pd_v rfl (by first | exact .inl rfl | exact .inr (.inl rfl) | exact .inr (.inr rfl))) (pd_v rfl (by first | exact .inl rfl | exact .inr (.inl rfl) | exact .inr (.inr rfl)))))) pl_nil))) (sd_cons (sd_set nd rfl (by first | exact .inl rfl | exact .inr rfl) (pd_maxP rg rfl rfl (mgn M (by kernel_rfl)) (pl_cons (pd_lc rfl nd (own := [("way", 12)]) (pid_list (pd_v rfl (by first | exact .inl rfl | exact .inr (.inl rfl) | exact .inr (.inr rfl)))) rfl (by decide) (fun _ _ _ _ _ => (gd_name nd rfl (by first | exact .inl rfl | exact .inr rfl) (by first | exact .inl rfl | exact .inr rfl))) (fun _ _ _ _ _ => (ptd_one (td_eqO (eq_own w mg base M TB) rg (by decide) (by decide) (pd_bin od_add or_add (pd_ix (pd_v rfl (by first | exact .inl rfl | exact .inr (.inl rfl) | exact .inr (.inr rfl))) pd_int) (pd_ix (pd_v rfl (by first | exact .inl rfl | exact .inr (.inl rfl) | exact .inr (.inr rfl))) pd_int)) (pd_v rfl (by first | exact .inl rfl | exact .inr (.inl rfl) | exact .inr (.inr rfl)))))) (fun _ _ _ _ _ => (pd_v rfl (by first | exact .inl rfl | exact .inr (.inl rfl) | exact .inr (.inr rfl))))) pl_nil))) (sd_cons (sd_par rfl nd rfl rfl (by decide) rfl rfl (pl_cons (pd_ix (pd_v rfl (by first | exact .inl rfl | exact .inr (.inl rfl) | exact .inr (.inr rfl))) pd_int) (pl_cons (pd_bin od_sub op_sub (pd_len rfl (mgn M (by kernel_rfl)) (pl_cons (pd_v rfl (by first | exact .inl rfl | exact .inr (.inl rfl) | exact .inr (.inr rfl))) pl_nil)) (pd_ix (pd_v rfl (by first | exact .inl rfl | exact .inr (.inl rfl) | exact .inr (.inr rfl))) pd_int)) pl_nil))) (sd_cons (sd_set nd rfl (by first | exact .inl rfl | exact .inr rfl) (pd_new (ct_Edit w mg base M TB) rg (by decide) tk rfl (by kernel_rfl) (pl_cons (pd_fn (fn__law_place w mg base M TB) rg (by decide) tk rfl (pl_cons (pd_v rfl (by first | exact .inl rfl | exact .inr (.inl rfl) | exact .inr (.inr rfl))) (pl_cons (pd_v rfl (by first | exact .inl rfl | exact .inr (.inl rfl) | exact .inr (.inr rfl))) pl_nil))) (pl_cons (pd_fn (fn__law_place w mg base M TB) rg (by decide) tk rfl (pl_cons (pd_v rfl (by first | exact .inl rfl | exact .inr (.inl rfl) | exact .inr (.inr rfl))) (pl_cons (pd_v rfl (by first | exact .inl rfl | exact .inr (.inl rfl) | exact .inr (.inr rfl))) pl_nil))) (pl_cons (pd_slice (pd_v rfl (by first | exact .inl rfl | exact .inr (.inl rfl) | exact .inr (.inr rfl))) (pp_some (pd_v rfl (by first | exact .inl rfl | exact .inr (.inl rfl) | exact .inr (.inr rfl)))) (pp_some (pd_bin od_sub op_sub (pd_len rfl (mgn M (by kernel_rfl)) (pl_cons (pd_v rfl (by first | exact .inl rfl | exact .inr (.inl rfl) | exact .inr (.inr rfl))) pl_nil)) (pd_ix (pd_v rfl (by first | exact .inl rfl | exact .inr (.inl rfl) | exact .inr (.inr rfl))) pd_int)))) pl_nil))))) (sd_cons (sd_if (PW.pt (tw_or (td_neO (eq_own w mg base M TB) rg (by decide) (by decide) (pd_v rfl (by first | exact .inl rfl | exact .inr (.inl rfl) | exact .inr (.inr rfl))) (pd_v rfl (by first | exact .inl rfl | exact .inr (.inl rfl) | exact .inr (.inr rfl)))) (tw_or (td_neO (eq_own w mg base M TB) rg (by decide) (by decide) (pd_v rfl (by first | exact .inl rfl | exact .inr (.inl rfl) | exact .inr (.inr rfl))) (pd_v rfl (by first | exact .inl rfl | exact .inr (.inl rfl) | exact .inr (.inr rfl)))) (tw_or (td_neO (eq_own w mg base M TB) rg (by decide) (by decide) (pd_callO (co_call w mg base M TB) rg (by decide) tk (pd_v rfl (by first | exact .inl rfl | exact .inr (.inl rfl) | exact .inr (.inr rfl))) (pl_cons (pd_v rfl (by first | exact .inl rfl | exact .inr (.inl rfl) | exact .inr (.inr rfl))) pl_nil)) (pd_v rfl (by first | exact .inl rfl | exact .inr (.inl rfl) | exact .inr (.inr rfl)))) (tw_or1 (td_neO (eq_own w mg base M TB) rg (by decide) (by decide) (pd_cm (cm_Edit_between w mg base M TB) rg (by decide) tk rfl (pl_cons (pd_v rfl (by first | exact .inl rfl | exact .inr (.inl rfl) | exact .inr (.inr rfl))) (pl_cons (pd_v rfl (by first | exact .inl rfl | exact .inr (.inl rfl) | exact .inr (.inr rfl))) pl_nil))) (pd_mth (mt_opposite w mg base M TB) rg (by decide) tk (pd_v rfl (by first | exact .inl rfl | exact .inr (.inl rfl) | exact .inr (.inr rfl))) (pl_cons (pd_v rfl (by first | exact .inl rfl | exact .inr (.inl rfl) | exact .inr (.inr rfl))) pl_nil)))))))) (sd_one (sd_ret pd_bl)) sd_nil) (sd_cons (sd_par rfl nd rfl rfl (by decide) rfl rfl (pl_cons (pd_slice (pd_v rfl (by first | exact .inl rfl | exact .inr (.inl rfl) | exact .inr (.inr rfl))) (pp_some (pd_v rfl (by first | exact .inl rfl | exact .inr (.inl rfl) | exact .inr (.inr rfl)))) (pp_some (pd_v rfl (by first | exact .inl rfl | exact .inr (.inl rfl) | exact .inr (.inr rfl))))) (pl_cons (pd_prop (pr_fresh w mg base M TB) rg (by decide) (pd_v rfl (by first | exact .inl rfl | exact .inr (.inl rfl) | exact .inr (.inr rfl)))) pl_nil))) (sd_cons (sd_if (PW.pt (tw_and (td_neO (eq_own w mg base M TB) rg (by decide) (by decide) (pd_v rfl (by first | exact .inl rfl | exact .inr (.inl rfl) | exact .inr (.inr rfl))) pd_str) (tw_and (td_neO (eq_own w mg base M TB) rg (by decide) (by decide) (pd_v rfl (by first | exact .inl rfl | exact .inr (.inl rfl) | exact .inr (.inr rfl))) pd_str) (tw_and1 (PW.pt (tw_or (td_eqO (eq_own w mg base M TB) rg (by decide) (by decide) (pd_ix (pd_v rfl (by first | exact .inl rfl | exact .inr (.inl rfl) | exact .inr (.inr rfl))) pd_int) (pd_ix (pd_v rfl (by first | exact .inl rfl | exact .inr (.inl rfl) | exact .inr (.inr rfl))) pd_int)) (tw_or1 (td_eqO (eq_own w mg base M TB) rg (by decide) (by decide) (pd_ix (pd_v rfl (by first | exact .inl rfl | exact .inr (.inl rfl) | exact .inr (.inr rfl))) (pd_neg pd_int)) (pd_ix (pd_v rfl (by first | exact .inl rfl | exact .inr (.inl rfl) | exact .inr (.inr rfl))) (pd_neg pd_int)))))))))) (sd_one (sd_ret pd_bl)) sd_nil) (sd_one (sd_ret (pd_and (pd_eqO (eq_own w mg base M TB) rg (by decide) (by decide) (pd_prop (pr_is_idle w mg base M TB) rg (by decide) (pd_v rfl (by first | exact .inl rfl | exact .inr (.inl rfl) | exact .inr (.inr rfl)))) (pd_eqO (eq_own w mg base M TB) rg (by decide) (by decide) (pd_v rfl (by first | exact .inl rfl | exact .inr (.inl rfl) | exact .inr (.inr rfl))) (pd_v rfl (by first | exact .inl rfl | exact .inr (.inl rfl) | exact .inr (.inr rfl))))) (pd_one (pd_or (pd_neO (eq_own w mg base M TB) rg (by decide) (by decide) (pd_v rfl (by first | exact .inl rfl | exact .inr (.inl rfl) | exact .inr (.inr rfl))) (pd_v rfl (by first | exact .inl rfl | exact .inr (.inl rfl) | exact .inr (.inr rfl)))) (pd_one (pd_eqO (eq_own w mg base M TB) rg (by decide) (by decide) (pd_prop (pr_low w mg base M TB) rg (by decide) (pd_v rfl (by first | exact .inl rfl | exact .inr (.inl rfl) | exact .inr (.inr rfl)))) (pd_fn (fn_end_of w mg base M TB) rg (by decide) tk rfl (pl_cons (pd_v rfl (by first | exact .inl rfl | exact .inr (.inl rfl) | exact .inr (.inr rfl))) pl_nil))))))))))))))))))
def E_law_1 : E1 := (var 14)
def T_law_2 : EB := (notB (isB (callF D__law_right [] (consL (bin ixF (var 14) (cst (.int 0))) (consL (bin ixF (var 14) (cst (.int 1))) nilL)))))
def B_law_3 : ST := (seqS (parS 9 10 (consL (callF D__law_signs [] (consL (var 4) (consL (cst (.int 10)) nilL))) (consL (callF D__law_signs [] (consL (var 4) (consL (cst (.int 10)) nilL))) nilL))) (seqS (asgS (callF D__law_cut [] (consL (var 4) (consL (var 9) nilL))) (gTp 3 (gCn (gNm 11) (gCn (gNm 12) (gCn (gNm 13) gNl))))) (seqS (setS 7 (bin addF (bin addF (slE (var 9) noP (someP (var 11))) (var 13)) (slE (var 9) (someP (var 12)) noP))) (seqS (setS 8 (lstE (consL (tupE (consL (var 9) (consL (var 10) nilL))) (consL (tupE (consL (var 9) (consL (var 7) nilL))) (consL (tupE (consL (var 9) (consL (bin addF (slE (var 9) noP (someP (var 12))) (slE (var 9) (someP (var 11)) noP)) nilL))) nilL))))) (seqS (setS 8 (bin addF (var 8) (lstE (consL (tupE (consL (var 10) (consL (bin addF (var 9) (var 10)) nilL))) (consL (tupE (consL (var 9) (consL (var 9) nilL))) nilL))))) (ifS (isB (bin (neO TT disp___eq__ (oksB [4] EQT)) (lcE [14] (itE itF (var 8)) (gNm 14) T_law_2 E_law_1) (lstE nilL))) (retS (cst (.bl false))) nextS))))))
def B_law_4 : ST := (seqS (setS 4 (callF D__law_stream [] (consL (var 3) (consL (var 2) nilL)))) (seqS (forS (rngF (consL (cst (.int 2)) nilL)) (gNm 5) B_law_3) (seqS (setS 6 (callF D__law_pick [] (consL (var 4) (consL (lstE (consL (cst .non) (consL (cst (.int 5)) (consL (cst (.bl true)) (consL (lstE (consL (cst (.str "a")) nilL)) (consL dic0E nilL)))))) nilL)))) (seqS (ifS (notB (isB (lamF D__law_refused (cmE 329 D_Edit_between (consL (var 6) (consL (var 6) nilL)))))) (retS (cst (.bl false))) nextS) (ifS (notB (isB (lamF D__law_refused (cmE 329 D_Edit_between (consL (cst (.str "a")) (consL (var 6) nilL)))))) (retS (cst (.bl false))) nextS)))))
def F_law : ST := (seqS (forS (enumF (consL (slE (bin addF (var 0) (lstE (consL (cst (.int 0)) nilL))) noP (someP (cst (.int 8)))) nilL)) (gTp 2 (gCn (gNm 2) (gCn (gNm 3) gNl))) B_law_4) (seqS (setS 1 (cmE 329 D_Edit_between (consL (cst (.str "aa")) (consL (cst (.str "aaa")) nilL)))) (seqS (ifS (isB (bin (neO TT disp___eq__ (oksB [4] EQT)) (lstE (consL (propE disp_low (var 1)) (consL (propE disp_high (var 1)) (consL (propE disp_fresh (var 1)) nilL)))) (lstE (consL (tupE (consL (cst (.int 0)) (consL (cst (.int 2)) nilL))) (consL (tupE (consL (cst (.int 0)) (consL (cst (.int 2)) nilL))) (consL (cst (.str "a")) nilL)))))) (retS (cst (.bl false))) nextS) (retS (bin (eqO TT disp___eq__ (oksB [4] EQT)) (cmE 329 D_Edit_between (consL (cst (.str "")) (consL (cst (.str "")) nilL))) (makeE true 4 D_Edit___init__ (consL (tupE (consL (cst (.int 0)) (consL (cst (.int 0)) nilL))) (consL (tupE (consL (cst (.int 0)) (consL (cst (.int 0)) nilL))) (consL (cst (.str "")) nilL)))))))))
def D_law : FD := runF 15 F_law
theorem fn_law (w : World) (mg : Str → Option Value) (base : Heap) (M : L2.Mod (KK w) mg base) (TB : TBS CSP mg base) : Fn PP w (KK w) mg base TT 14 "law" (["script"] : List Str) [] D_law := by
  have nd : ((["script", "edit", "k", "item", "stream", "turn", "wrong", "near", "rows", "signs", "far", "first", "last", "more", "row"] : List Str)).Nodup := by decide
  refine ⟨404, _, fn_d (N := (["script", "edit", "k", "item", "stream", "turn", "wrong", "near", "rows", "signs", "far", "first", "last", "more", "row"] : List Str)) (ps := (["script"] : List Str)) (F := F_law) rfl (by kernel_rfl) (C8.fnScope_by (by rfl)) ?_, mg_some M.kin M.glob (by kernel_rfl), by kernel_rfl, Binds.all fun us hl => match us, hl with | [a0], _ => rfl, (fun _ h => nomatch h)⟩
  intro A outer s H E rg tk pso
  unfold F_law
  unfold B_law_4
  unfold B_law_3
  unfold T_law_2
  unfold E_law_1
  exact (sd_cons (sd_for pso rfl (pid_enum rfl (mgn M (by kernel_rfl)) (pl_cons (pd_slice (pd_bin od_add or_add (pd_v rfl (by first | exact .inl rfl | exact .inr (.inl rfl) | exact .inr (.inr rfl))) (pd_lst (pl_cons pd_int pl_nil))) pp_none (pp_some pd_int)) pl_nil)) (gd_tup rfl (gd_cons (gd_name nd rfl (by first | exact .inl rfl | exact .inr rfl) (by first | exact .inl rfl | exact .inr rfl)) (gd_cons (gd_name nd rfl (by first | exact .inl rfl | exact .inr rfl) (by first | exact .inl rfl | exact .inr rfl)) gd_nil))) (sd_cons (sd_set nd rfl (by first | exact .inl rfl | exact .inr rfl) (pd_fn (fn__law_stream w mg base M TB) rg (by decide) tk rfl (pl_cons (pd_v rfl (by first | exact .inl rfl | exact .inr (.inl rfl) | exact .inr (.inr rfl))) (pl_cons (pd_v rfl (by first | exact .inl rfl | exact .inr (.inl rfl) | exact .inr (.inr rfl))) pl_nil)))) (sd_cons (sd_for pso rfl (pid_rng rfl (mgn M (by kernel_rfl)) (pl_cons pd_int pl_nil)) (gd_name nd rfl (by first | exact .inl rfl | exact .inr rfl) (by first | exact .inl rfl | exact .inr rfl)) (sd_cons (sd_par rfl nd rfl rfl (by decide) rfl rfl (pl_cons (pd_fn (fn__law_signs w mg base M TB) rg (by decide) tk rfl (pl_cons (pd_v rfl (by first | exact .inl rfl | exact .inr (.inl rfl) | exact .inr (.inr rfl))) (pl_cons pd_int pl_nil))) (pl_cons (pd_fn (fn__law_signs w mg base M TB) rg (by decide) tk rfl (pl_cons (pd_v rfl (by first | exact .inl rfl | exact .inr (.inl rfl) | exact .inr (.inr rfl))) (pl_cons pd_int pl_nil))) pl_nil))) (sd_cons (sd_asg (pd_fn (fn__law_cut w mg base M TB) rg (by decide) tk rfl (pl_cons (pd_v rfl (by first | exact .inl rfl | exact .inr (.inl rfl) | exact .inr (.inr rfl))) (pl_cons (pd_v rfl (by first | exact .inl rfl | exact .inr (.inl rfl) | exact .inr (.inr rfl))) pl_nil))) (gd_tup rfl (gd_cons (gd_name nd rfl (by first | exact .inl rfl | exact .inr rfl) (by first | exact .inl rfl | exact .inr rfl)) (gd_cons (gd_name nd rfl (by first | exact .inl rfl | exact .inr rfl) (by first | exact .inl rfl | exact .inr rfl)) (gd_cons (gd_name nd rfl (by first | exact .inl rfl | exact .inr rfl) (by first | exact .inl rfl | exact .inr rfl)) gd_nil))))) (sd_cons (sd_set nd rfl (by first | exact .inl rfl | exact .inr rfl) (pd_bin od_add or_add (pd_bin od_add or_add (pd_slice (pd_v rfl (by first | exact .inl rfl | exact .inr (.inl rfl) | exact .inr (.inr rfl))) pp_none (pp_some (pd_v rfl (by first | exact .inl rfl | exact .inr (.inl rfl) | exact .inr (.inr rfl))))) (pd_v rfl (by first | exact .inl rfl | exact .inr (.inl rfl) | exact .inr (.inr rfl)))) (pd_slice (pd_v rfl (by first | exact .inl rfl | exact .inr (.inl rfl) | exact .inr (.inr rfl))) (pp_some (pd_v rfl (by first | exact .inl rfl | exact .inr (.inl rfl) | exact .inr (.inr rfl)))) pp_none))) (sd_cons (sd_set nd rfl (by first | exact .inl rfl | exact .inr rfl) (pd_lst (pl_cons (pd_tup (pl_cons (pd_v rfl (by first | exact .inl rfl | exact .inr (.inl rfl) | exact .inr (.inr rfl))) (pl_cons (pd_v rfl (by first | exact .inl rfl | exact .inr (.inl rfl) | exact .inr (.inr rfl))) pl_nil))) (pl_cons (pd_tup (pl_cons (pd_v rfl (by first | exact .inl rfl | exact .inr (.inl rfl) | exact .inr (.inr rfl))) (pl_cons (pd_v rfl (by first | exact .inl rfl | exact .inr (.inl rfl) | exact .inr (.inr rfl))) pl_nil))) (pl_cons (pd_tup (pl_cons (pd_v rfl (by first | exact .inl rfl | exact .inr (.inl rfl) | exact .inr (.inr rfl))) (pl_cons (pd_bin od_add or_add (pd_slice (pd_v rfl (by first | exact .inl rfl | exact .inr (.inl rfl) | exact .inr (.inr rfl))) pp_none (pp_some (pd_v rfl (by first | exact .inl rfl | exact .inr (.inl rfl) | exact .inr (.inr rfl))))) (pd_slice (pd_v rfl (by first | exact .inl rfl | exact .inr (.inl rfl) | exact .inr (.inr rfl))) (pp_some (pd_v rfl (by first | exact .inl rfl | exact .inr (.inl rfl) | exact .inr (.inr rfl)))) pp_none)) pl_nil))) pl_nil))))) (sd_cons (sd_set nd rfl (by first | exact .inl rfl | exact .inr rfl) (pd_bin od_add or_add (pd_v rfl (by first | exact .inl rfl | exact .inr (.inl rfl) | exact .inr (.inr rfl))) (pd_lst (pl_cons (pd_tup (pl_cons (pd_v rfl (by first | exact .inl rfl | exact .inr (.inl rfl) | exact .inr (.inr rfl))) (pl_cons (pd_bin od_add or_add (pd_v rfl (by first | exact .inl rfl | exact .inr (.inl rfl) | exact .inr (.inr rfl))) (pd_v rfl (by first | exact .inl rfl | exact .inr (.inl rfl) | exact .inr (.inr rfl)))) pl_nil))) (pl_cons (pd_tup (pl_cons (pd_v rfl (by first | exact .inl rfl | exact .inr (.inl rfl) | exact .inr (.inr rfl))) (pl_cons (pd_v rfl (by first | exact .inl rfl | exact .inr (.inl rfl) | exact .inr (.inr rfl))) pl_nil))) pl_nil))))) (sd_one (sd_if (td_neO (eq_own w mg base M TB) rg (by decide) (by decide) (pd_lc rfl nd (own := [("row", 14)]) (pid_list (pd_v rfl (by first | exact .inl rfl | exact .inr (.inl rfl) | exact .inr (.inr rfl)))) rfl (by decide) (fun _ _ _ _ _ => (gd_name nd rfl (by first | exact .inl rfl | exact .inr rfl) (by first | exact .inl rfl | exact .inr rfl))) (fun _ _ _ _ _ => (ptd_one (td_not (td_val (pd_fn (fn__law_right w mg base M TB) rg (by decide) takes_blk rfl (pl_cons (pd_ix (pd_v rfl (by first | exact .inl rfl | exact .inr (.inl rfl) | exact .inr (.inr rfl))) pd_int) (pl_cons (pd_ix (pd_v rfl (by first | exact .inl rfl | exact .inr (.inl rfl) | exact .inr (.inr rfl))) pd_int) pl_nil))))))) (fun _ _ _ _ _ => (pd_v rfl (by first | exact .inl rfl | exact .inr (.inl rfl) | exact .inr (.inr rfl))))) (pd_lst pl_nil)) (sd_one (sd_ret pd_bl)) sd_nil)))))))) (sd_cons (sd_set nd rfl (by first | exact .inl rfl | exact .inr rfl) (pd_fn (fn__law_pick w mg base M TB) rg (by decide) tk rfl (pl_cons (pd_v rfl (by first | exact .inl rfl | exact .inr (.inl rfl) | exact .inr (.inr rfl))) (pl_cons (pd_lst (pl_cons pd_non (pl_cons pd_int (pl_cons pd_bl (pl_cons (pd_lst (pl_cons pd_str pl_nil)) (pl_cons pd_dic0 pl_nil)))))) pl_nil)))) (sd_cons (sd_if (td_not (td_val (pd_lam (k := 1) (kb := 11) (c := 403) (P := 401) (bs := ([] : List Str)) (gv__law_refused w mg base M TB) blind__law_refused (rg.mono (by decide)) tk rfl (TB (403, 401) (List.mem_of_getElem? (i := 0) rfl)) rfl (List.mem_of_getElem? (i := 0) rfl) (only_by (by rfl)) (lamOk_by (by rfl)) rfl dfl0 na0 (fun _ h => nomatch h) (fun f c A outer s H E rg tk pso => (pd_cm (cm_Edit_between w mg base M TB) rg (by decide) tk rfl (pl_cons (pd_v rfl (by first | exact .inl rfl | exact .inr (.inl rfl) | exact .inr (.inr rfl))) (pl_cons (pd_v rfl (by first | exact .inl rfl | exact .inr (.inl rfl) | exact .inr (.inr rfl))) pl_nil))))))) (sd_one (sd_ret pd_bl)) sd_nil) (sd_one (sd_if (td_not (td_val (pd_lam (k := 1) (kb := 11) (c := 403) (P := 401) (bs := ([] : List Str)) (gv__law_refused w mg base M TB) blind__law_refused (rg.mono (by decide)) tk rfl (TB (403, 401) (List.mem_of_getElem? (i := 0) rfl)) rfl (List.mem_of_getElem? (i := 0) rfl) (only_by (by rfl)) (lamOk_by (by rfl)) rfl dfl0 na0 (fun _ h => nomatch h) (fun f c A outer s H E rg tk pso => (pd_cm (cm_Edit_between w mg base M TB) rg (by decide) tk rfl (pl_cons pd_str (pl_cons (pd_v rfl (by first | exact .inl rfl | exact .inr (.inl rfl) | exact .inr (.inr rfl))) pl_nil))))))) (sd_one (sd_ret pd_bl)) sd_nil))))))) (sd_cons (sd_set nd rfl (by first | exact .inl rfl | exact .inr rfl) (pd_cm (cm_Edit_between w mg base M TB) rg (by decide) tk rfl (pl_cons pd_str (pl_cons pd_str pl_nil)))) (sd_cons (sd_if (td_neO (eq_own w mg base M TB) rg (by decide) (by decide) (pd_lst (pl_cons (pd_prop (pr_low w mg base M TB) rg (by decide) (pd_v rfl (by first | exact .inl rfl | exact .inr (.inl rfl) | exact .inr (.inr rfl)))) (pl_cons (pd_prop (pr_high w mg base M TB) rg (by decide) (pd_v rfl (by first | exact .inl rfl | exact .inr (.inl rfl) | exact .inr (.inr rfl)))) (pl_cons (pd_prop (pr_fresh w mg base M TB) rg (by decide) (pd_v rfl (by first | exact .inl rfl | exact .inr (.inl rfl) | exact .inr (.inr rfl)))) pl_nil)))) (pd_lst (pl_cons (pd_tup (pl_cons pd_int (pl_cons pd_int pl_nil))) (pl_cons (pd_tup (pl_cons pd_int (pl_cons pd_int pl_nil))) (pl_cons pd_str pl_nil))))) (sd_one (sd_ret pd_bl)) sd_nil) (sd_one (sd_ret (pd_eqO (eq_own w mg base M TB) rg (by decide) (by decide) (pd_cm (cm_Edit_between w mg base M TB) rg (by decide) tk rfl (pl_cons pd_str (pl_cons pd_str pl_nil))) (pd_new (ct_Edit w mg base M TB) rg (by decide) tk rfl (by kernel_rfl) (pl_cons (pd_tup (pl_cons pd_int (pl_cons pd_int pl_nil))) (pl_cons (pd_tup (pl_cons pd_int (pl_cons pd_int pl_nil))) (pl_cons pd_str pl_nil))))))))))
end
end L07
end

section
open PySem DL
set_option linter.all false
set_option Elab.async false
set_option maxRecDepth 100000
set_option maxHeartbeats 1000000
/-! plain facts of draws: one list of the store changes, of three numbers -/
namespace DL
/-- at n stands a list of three numbers, the second one at most b -/
def Sm (n : Nat) (b : Int) (m : S) : Prop := Wf m ∧ ∃ a c r : Int, m[n]? = some (.lst [.int a, .int c, .int r]) ∧ 0 ≤ c ∧ c ≤ b
/-- all but n is the same -/
def Stp (n : Nat) (m m' : S) : Prop := m'.length = m.length ∧ ∀ k, k ≠ n → m'[k]? = m[k]?
theorem Stp.refl (n : Nat) (m : S) : Stp n m m := ⟨rfl, fun _ _ => rfl⟩
theorem Stp.trans {n : Nat} {m1 m2 m3 : S} (a : Stp n m1 m2) (b : Stp n m2 m3) : Stp n m1 m3 := ⟨b.1.trans a.1, fun k h => (b.2 k h).trans (a.2 k h)⟩
theorem Sm.mono {n : Nat} {b b' : Int} {m : S} (h : Sm n b m) (l : b ≤ b') : Sm n b' m := let ⟨w, a, c, r, e, h1, h2⟩ := h; ⟨w, a, c, r, e, h1, by omega⟩
theorem Sm.lt {n : Nat} {b : Int} {m : S} (h : Sm n b m) : n < m.length := let ⟨_, _, _, _, e, _⟩ := h; (List.getElem?_eq_some_iff.mp e).1
theorem wf_set {m : S} {n : Nat} {ob : Ob} (w : Wf m) (h : clOb m.length ob = true) : Wf (m.set n ob) := by
  unfold Wf at w ⊢
  rw [List.length_set, List.all_eq_true]
  intro x hx
  rcases List.mem_or_eq_of_mem_set hx with z | z
  · exact List.all_eq_true.mp w x z
  · rw [z]; exact h
theorem sm_set {n : Nat} {b : Int} {m : S} (h : Sm n b m) (a c r : Int) (c0 : 0 ≤ c) (c1 : c ≤ b + 1) : Sm n (b + 1) (m.set n (.lst [.int a, .int c, .int r])) ∧ Stp n m (m.set n (.lst [.int a, .int c, .int r])) := by
  refine ⟨⟨wf_set h.1 rfl, a, c, r, by rw [List.getElem?_set_self h.lt], c0, c1⟩, List.length_set, fun k hk => List.getElem?_set_ne (Ne.symm hk)⟩
theorem wf_app {m : S} {ob : Ob} (w : Wf m) (h : clOb m.length ob = true) : Wf (m ++ [ob]) := by
  unfold Wf at w ⊢
  rw [List.all_eq_true]
  intro x hx
  rw [List.length_append, List.length_singleton]
  rcases List.mem_append.mp hx with z | z
  · exact clOb_mono (Nat.le_succ _) x (List.all_eq_true.mp w x z)
  · rw [List.mem_singleton.mp z]; exact clOb_mono (Nat.le_succ _) ob h
/-- a comprehension that draws -/
theorem lcLoop_st {n k0 : Nat} {g : GD} {te : E1} {μ : Env'} {P : D → Prop} {B : Int} (hP : ∀ y, P y → ∀ k, cl k y = true) : ∀ (xs : List D) (acc : List D) (b : Int) (M : S), (∀ x ∈ xs, ∃ μ1, g x μ = some μ1 ∧ ∀ b M, Sm n b M → b < B → ∃ y M', te μ1 M = .ok y M' ∧ P y ∧ Sm n (b + 1) M' ∧ Stp n M M') →
    Sm n b M → M.length = k0 + 1 → n < k0 → M[k0]? = some (.lst acc) → (∀ y ∈ acc, P y) → b + xs.length ≤ B → acc.length + xs.length ≤ cap →
    ∃ ys M', lcLoop k0 g yesB te μ xs M = some M' ∧ M'[k0]? = some (.lst (acc ++ ys)) ∧ ys.length = xs.length ∧ (∀ y ∈ ys, P y) ∧ Sm n (b + xs.length) M' ∧ M'.length = M.length ∧ ∀ k, k ≠ n → k ≠ k0 → M'[k]? = M[k]?
  | [], acc, b, M, hx, sm, hl, hn, ha, pa, hb, hc => ⟨[], M, rfl, by rw [ha, List.append_nil], rfl, by simp, by simpa using sm, rfl, fun _ _ _ => rfl⟩
  | x :: xs, acc, b, M, hx, sm, hl, hn, ha, pa, hb, hc => by
    obtain ⟨μ1, e1, h1⟩ := hx x (List.mem_cons_self ..)
    obtain ⟨y, M1, e2, py, sm1, st1⟩ := h1 b M sm (by simp at hb; omega)
    have ha1 : M1[k0]? = some (.lst acc) := (st1.2 k0 (by omega)).trans ha
    have pc : ∀ z ∈ acc ++ [y], P z := fun z hz => (List.mem_append.mp hz).elim (pa z) fun q => List.mem_singleton.mp q ▸ py
    have cc : clOb M1.length (.lst (acc ++ [y])) = true := by
      have : ∀ (l : List D), (∀ z ∈ l, P z) → cls M1.length l = true := fun l => by
        induction l with
        | nil => intro _; simp only [cls]
        | cons d l ih => intro h; simp only [cls, Bool.and_eq_true]; exact ⟨hP d (h d (List.mem_cons_self ..)) _, ih fun z hz => h z (List.mem_cons_of_mem _ hz)⟩
      exact this _ pc
    have sm2 : Sm n (b + 1) (M1.set k0 (.lst (acc ++ [y]))) := by
      obtain ⟨w, a, c, r, e, c1, c2⟩ := sm1
      exact ⟨wf_set w cc, a, c, r, by rw [List.getElem?_set_ne (by omega)]; exact e, c1, c2⟩
    have hk0 : k0 < M1.length := (List.getElem?_eq_some_iff.mp ha1).1
    obtain ⟨ys, M', e3, e4, e5, e6, e7, e8, e9⟩ := lcLoop_st hP xs (acc ++ [y]) (b + 1) (M1.set k0 (.lst (acc ++ [y]))) (fun z hz => hx z (List.mem_cons_of_mem _ hz)) sm2 (by rw [List.length_set, st1.1, hl]) hn (List.getElem?_set_self hk0) pc (by simp at hb; omega) (by simp at hc ⊢; omega)
    refine ⟨y :: ys, M', ?_, by rw [e4]; simp, by simp [e5], fun z hz => ?_, by simpa [Int.add_assoc, Int.add_comm 1] using e7, by rw [e8, List.length_set, st1.1], fun k k1 k2 => ?_⟩
    · have hcap : acc.length ≤ cap := by simp at hc; omega
      simp only [lcLoop, e1, yesB, e2, ha1, if_pos hcap]
      exact e3
    · rcases List.mem_cons.mp hz with q | q
      · rw [q]; exact py
      · exact e6 z q
    · rw [e9 k k1 k2, List.getElem?_set_ne (Ne.symm k2)]; exact st1.2 k k1
theorem lcE_st {n : Nat} {vs : List Nat} {f : EL} {g : GD} {te : E1} {μ : Env'} {P : D → Prop} {B b : Int} {m : S} {ds : List D} (hP : ∀ y, P y → ∀ k, cl k y = true) (hf : f μ m = .ok ds m) (hx : ∀ x ∈ ds, ∃ μ1, g x (wipeD μ vs) = some μ1 ∧ ∀ b M, Sm n b M → b < B → ∃ y M', te μ1 M = .ok y M' ∧ P y ∧ Sm n (b + 1) M' ∧ Stp n M M')
    (sm : Sm n b m) (hb : b + ds.length ≤ B) (hc : ds.length ≤ cap) : ∃ ys m', lcE vs f g yesB te μ m = .ok (.lst ys) m' ∧ ys.length = ds.length ∧ (∀ y ∈ ys, P y) ∧ Sm n (b + ds.length) m' ∧ Stp n m m' := by
  have hn := sm.lt
  have sm0 : Sm n b (m ++ [.lst []]) := by
    obtain ⟨w, a, c, r, e, c1, c2⟩ := sm
    exact ⟨wf_app w rfl, a, c, r, by rw [List.getElem?_append_left hn]; exact e, c1, c2⟩
  obtain ⟨ys, M', e1, e2, e3, e4, e5, e6, e7⟩ := lcLoop_st (k0 := m.length) (n := n) hP ds [] b (m ++ [.lst []]) hx sm0 (by simp) hn (by simp) (by simp) hb (by simpa using hc)
  have hl : M'.length = m.length + 1 := by rw [e6]; simp
  have tk : ∀ k, k < m.length → (M'.take m.length)[k]? = M'[k]? := fun k hk => by rw [List.getElem?_take_of_lt hk]
  have same : ∀ k, k < m.length → k ≠ n → M'[k]? = m[k]? := fun k hk kn => by rw [e7 k kn (by omega), List.getElem?_append_left hk]
  obtain ⟨w', a, c, r, e, c1, c2⟩ := e5
  have cy : cls m.length ys = true := by
    have : ∀ (l : List D), (∀ z ∈ l, P z) → cls m.length l = true := fun l => by
      induction l with
      | nil => intro _; simp only [cls]
      | cons d l ih => intro h; simp only [cls, Bool.and_eq_true]; exact ⟨hP d (h d (List.mem_cons_self ..)) _, ih fun z hz => h z (List.mem_cons_of_mem _ hz)⟩
    exact this _ e4
  have ca : (M'.take m.length).all (clOb m.length) = true := by
    rw [List.all_eq_true]
    intro x hx
    obtain ⟨k, q⟩ := List.mem_iff_getElem?.mp hx
    have hk : k < m.length := by have := (List.getElem?_eq_some_iff.mp q).1; simp at this; omega
    rw [tk k hk] at q
    by_cases kn : k = n
    · rw [kn, e] at q; cases q; rfl
    · rw [same k hk kn] at q
      exact List.all_eq_true.mp sm.1 x (List.mem_of_getElem? q)
  refine ⟨ys, M'.take m.length, ?_, e3, e4, ⟨?_, a, c, r, by rw [tk n hn]; exact e, c1, c2⟩, by simp; omega, fun k kn => ?_⟩
  · unfold lcE
    rw [hf]
    simp only [R.bind_ok]
    rw [e1]
    unfold takeL
    simp only [e2, List.nil_append]
    rw [if_pos ⟨cy, ca⟩]
  · have : (M'.take m.length).length = m.length := by simp; omega
    unfold Wf; rw [this]; exact ca
  · by_cases hk : k < m.length
    · rw [tk k hk]; exact same k hk kn
    · rw [List.getElem?_eq_none (by simp; omega), List.getElem?_eq_none (by omega)]
end DL
end

section
open PySem DL
set_option linter.all false
set_option Elab.async false
set_option maxRecDepth 100000
set_option maxHeartbeats 1000000
/-! W1: what is wanted of a result, from the end to the front -/
namespace DL
def Wp {α : Type} (r : R α) (Q : α → S → Prop) : Prop := match r with
  | .ok a m => Q a m
  | _ => False
def WpO (o : O) (N : Env' → S → Prop) (Rt : D → S → Prop) (B C : Env' → S → Prop) : Prop := match o with
  | .nx μ m => N μ m
  | .ret d m => Rt d m
  | .bk μ m => B μ m
  | .ct μ m => C μ m
  | _ => False
section
variable {α β : Type} {a : α} {m : S} {μ : Env'} {d : D} {N B C : Env' → S → Prop} {Rt : D → S → Prop}
theorem wp_ok {Q : α → S → Prop} : Wp (.ok a m) Q = Q a m := rfl
theorem wp_err {c : Nat} {fs : List D} {Q : α → S → Prop} : Wp (.err c fs m) Q = False := rfl
theorem wp_bad {Q : α → S → Prop} : Wp .bad Q = False := rfl
theorem wp_bind {r : R α} {f : α → S → R β} {Q : β → S → Prop} : Wp (r.bind f) Q = Wp r fun a m => Wp (f a m) Q := by cases r <;> rfl
theorem wp_ite {c : Prop} [Decidable c] {x y : R α} {Q : α → S → Prop} : Wp (if c then x else y) Q = if c then Wp x Q else Wp y Q := by split <;> rfl
theorem wpo_ite {c : Prop} [Decidable c] {x y : O} : WpO (if c then x else y) N Rt B C = if c then WpO x N Rt B C else WpO y N Rt B C := by split <;> rfl
theorem wpo_nx : WpO (.nx μ m) N Rt B C = N μ m := rfl
theorem wpo_ret : WpO (.ret d m) N Rt B C = Rt d m := rfl
theorem wpo_bk : WpO (.bk μ m) N Rt B C = B μ m := rfl
theorem wpo_ct : WpO (.ct μ m) N Rt B C = C μ m := rfl
theorem wpo_bad : WpO .bad N Rt B C = False := rfl
theorem wpo_seq {f g : ST} : WpO (seqS f g μ m) N Rt B C = WpO (f μ m) (fun μ1 m1 => WpO (g μ1 m1) N Rt B C) Rt B C := by
  unfold seqS; cases f μ m <;> rfl
theorem wpo_lift {f : E1} {g : D → ST} : WpO (liftS f g μ m) N Rt B C = Wp (f μ m) fun d m1 => WpO (g d μ m1) N Rt B C := by
  unfold liftS; cases f μ m <;> rfl
theorem wpo_liftL {f : EL} {g : List D → ST} : WpO (liftL f g μ m) N Rt B C = Wp (f μ m) fun d m1 => WpO (g d μ m1) N Rt B C := by
  unfold liftL; cases f μ m <;> rfl
theorem wpo_if {c : EB} {f g : ST} : WpO (ifS c f g μ m) N Rt B C = Wp (c μ m) fun b m1 => if b = true then WpO (f μ m1) N Rt B C else WpO (g μ m1) N Rt B C := by
  unfold ifS; cases c μ m with
  | ok b m1 => cases b <;> rfl
  | err => rfl
  | bad => rfl
theorem wpo_set {i : Nat} {f : E1} : WpO (setS i f μ m) N Rt B C = Wp (f μ m) fun d m1 => N (μ.set i (some d)) m1 := wpo_lift
theorem wpo_retS {f : E1} : WpO (retS f μ m) N Rt B C = Wp (f μ m) Rt := wpo_lift
theorem wpo_expr {f : E1} : WpO (exprS f μ m) N Rt B C = Wp (f μ m) fun _ m1 => N μ m1 := wpo_lift
theorem wpo_next : WpO (nextS μ m) N Rt B C = N μ m := rfl
theorem wpo_break : WpO (breakS μ m) N Rt B C = B μ m := rfl
theorem wpo_cont : WpO (contS μ m) N Rt B C = C μ m := rfl
theorem wpo_for {f : EL} {g : GD} {b : ST} : WpO (forS f g b μ m) N Rt B C = Wp (f μ m) fun ds m1 => WpO (loopS g b ds μ m1) N Rt B C := wpo_liftL
theorem wp_runF {n : Nat} {F : ST} {ds : List D} {Q : D → S → Prop} : Wp (runF n F ds m) Q = WpO (F (ds.map some ++ List.replicate (n - ds.length) none) m) (fun _ m' => Q .non m') Q (fun _ _ => False) (fun _ _ => False) := by
  unfold runF; cases F (ds.map some ++ List.replicate (n - ds.length) none) m <;> rfl
theorem Wp.mono {r : R α} {Q Q' : α → S → Prop} (h : Wp r Q) (k : ∀ a m, Q a m → Q' a m) : Wp r Q' := by cases r <;> first | exact k _ _ h | exact h
theorem WpO.mono {o : O} {N' B' C' : Env' → S → Prop} {Rt' : D → S → Prop} (h : WpO o N Rt B C) (k1 : ∀ a m, N a m → N' a m) (k2 : ∀ a m, Rt a m → Rt' a m) (k3 : ∀ a m, B a m → B' a m) (k4 : ∀ a m, C a m → C' a m) : WpO o N' Rt' B' C' := by
  cases o <;> first | exact k1 _ _ h | exact k2 _ _ h | exact k3 _ _ h | exact k4 _ _ h | exact h
/-- a loop by its invariant: of the items that are left -/
theorem wp_loop {g : GD} {b : ST} (I : List D → Env' → S → Prop) : ∀ (xs : List D) {μ : Env'} {m : S}, I xs μ m → (∀ x xs μ m, I (x :: xs) μ m → ∃ μ1, g x μ = some μ1 ∧ WpO (b μ1 m) (I xs) Rt N (I xs)) → (∀ μ m, I [] μ m → N μ m) → WpO (loopS g b xs μ m) N Rt B C
  | [], μ, m, h, _, e => e μ m h
  | x :: xs, μ, m, h, s, e => by
    obtain ⟨μ1, e1, h1⟩ := s x xs μ m h
    unfold loopS
    rw [e1]
    simp only
    cases q : b μ1 m with
    | nx μ2 m2 => rw [q] at h1; exact wp_loop I xs h1 s e
    | ct μ2 m2 => rw [q] at h1; exact wp_loop I xs h1 s e
    | bk μ2 m2 => rw [q] at h1; exact h1
    | ret d m2 => rw [q] at h1; exact h1
    | err c fs μ2 m2 => rw [q] at h1; exact h1
    | bad => rw [q] at h1; exact h1
/-- the answer, out of what is wanted -/
theorem ok_of_wp {r : R α} (h : Wp r fun d _ => d = a) : ∃ m, r = .ok a m := by
  cases r with
  | ok d m => exact ⟨m, by rw [show d = a from h]⟩
  | err c fs m => exact h.elim
  | bad => exact h.elim
theorem wp_eq {r : R α} {Q : α → S → Prop} (h : r = .ok a m) (q : Q a m) : Wp r Q := by rw [h]; exact q
end
end DL
end

section
open PySem DL
set_option linter.all false
set_option Elab.async false
set_option maxRecDepth 100000
set_option maxHeartbeats 1000000
/-! plain facts of texts: parts between single signs -/
namespace DL
/-- the places of c, from i on -/
def cuts (c : Nat) : Nat → List Nat → List Nat
  | _, [] => []
  | i, a :: r => if a = c then i :: cuts c (i + 1) r else cuts c (i + 1) r
theorem sub1 (cs : List Nat) (c i : Nat) : Builtin.Str.subAt ⟨cs.toArray⟩ ⟨#[c]⟩ i = decide (cs[i]? = some c) := by
  unfold Builtin.Str.subAt
  simp [Str.length]
  by_cases h : i < cs.length
  · rw [List.getElem?_eq_getElem h]
    simp only [Option.some.injEq]
    rw [List.drop_eq_getElem_cons h, List.take_succ_cons, List.take_zero]
    simp [List.cons_beq_cons]
    by_cases e : cs[i] = c <;> simp [e]
  · rw [List.getElem?_eq_none (by omega), List.drop_eq_nil_of_le (by omega)]
    simp
theorem occ_loop (cs : List Nat) (c : Nat) : ∀ (k i : Nat) (st : Array Nat × Nat), i + k = cs.length + 1 → st.1.size ≤ i → st.2 ≤ i →
    (forIn (List.range' i k) st (StrLaws.occBody ⟨cs.toArray⟩ ⟨#[c]⟩ cs.length (cs.length + 1))).run.1.toList = st.1.toList ++ cuts c i (cs.drop i)
  | 0, i, st, h, h1, h2 => by
    rw [List.drop_eq_nil_of_le (by omega)]
    simp [cuts]
  | k + 1, i, st, h, h1, h2 => by
    rw [List.range'_succ, List.forIn_cons]
    by_cases hi : i < cs.length
    · have hd : cs.drop i = cs[i] :: cs.drop (i + 1) := List.drop_eq_getElem_cons hi
      have hs : Builtin.Str.subAt ⟨cs.toArray⟩ ⟨#[c]⟩ i = decide (cs[i] = c) := by rw [sub1, List.getElem?_eq_getElem hi]; simp
      by_cases e : cs[i] = c
      · have step := occ_loop cs c k (i + 1) (st.1.push i, i + 1) (by omega) (by simp; omega) (by simp)
        have body : StrLaws.occBody ⟨cs.toArray⟩ ⟨#[c]⟩ cs.length (cs.length + 1) i st = pure (ForInStep.yield (st.1.push i, i + 1)) := by
          unfold StrLaws.occBody
          rw [if_pos ⟨⟨⟨by omega, h2⟩, by simp [Str.length]; omega⟩, by rw [hs]; simp [e]⟩]
          rfl
        rw [body, hd]
        simp only [cuts, if_pos e]
        rw [show st.1.toList ++ i :: cuts c (i + 1) (cs.drop (i + 1)) = (st.1.push i).toList ++ cuts c (i + 1) (cs.drop (i + 1)) by simp]
        exact step
      · have step := occ_loop cs c k (i + 1) st (by omega) (by omega) (by omega)
        have body : StrLaws.occBody ⟨cs.toArray⟩ ⟨#[c]⟩ cs.length (cs.length + 1) i st = pure (ForInStep.yield (st.1, st.2)) := by
          unfold StrLaws.occBody
          rw [if_neg (fun z => by rw [hs] at z; simp [e] at z)]
        rw [body, hd]
        simp only [cuts, if_neg e]
        exact step
    · have step := occ_loop cs c k (i + 1) st (by omega) (by omega) (by omega)
      have body : StrLaws.occBody ⟨cs.toArray⟩ ⟨#[c]⟩ cs.length (cs.length + 1) i st = pure (ForInStep.yield (st.1, st.2)) := by
        unfold StrLaws.occBody
        rw [if_neg (fun z => by have := z.1.2; simp [Str.length] at this; omega)]
      rw [body, List.drop_eq_nil_of_le (by omega : cs.length ≤ i)]
      rw [List.drop_eq_nil_of_le (by omega : cs.length ≤ i + 1)] at step
      exact step
theorem occ_cuts (x : Str) (c : Nat) : Builtin.Str.occurrences x ⟨#[c]⟩ 0 x.length (x.length + 1) = cuts c 0 x.cps.toList := by
  have h := occ_loop x.cps.toList c (x.cps.toList.length + 1) 0 (#[], 0) (by omega) (by simp) (by simp)
  rw [StrLaws.occ_eq]
  simpa [Str.length] using h
/-- where the last line begins -/
def lastB (b : Nat) : List Nat → Nat
  | [] => b
  | k :: r => lastB (k + 1) r
/-- a text's shape: the number of its c, the length behind the last one -/
def stepC (c : Nat) (s : Nat × Nat) (a : Nat) : Nat × Nat := if a = c then (s.1 + 1, 0) else (s.1, s.2 + 1)
def shape (c : Nat) (cs : List Nat) : Nat × Nat := cs.foldl (stepC c) (0, 0)
theorem cuts_fold (c : Nat) : ∀ (cs : List Nat) (i b f : Nat), b ≤ i → cs.foldl (stepC c) (f, i - b) = (f + (cuts c i cs).length, i + cs.length - lastB b (cuts c i cs)) ∧ lastB b (cuts c i cs) ≤ i + cs.length
  | [], i, b, f, h => by simp [cuts, lastB, h]
  | a :: r, i, b, f, h => by
    by_cases e : a = c
    · have ih := cuts_fold c r (i + 1) (i + 1) (f + 1) (Nat.le_refl _)
      simp only [List.foldl_cons, stepC, if_pos e, cuts, lastB, List.length_cons]
      rw [Nat.sub_self] at ih
      refine ⟨ih.1.trans ?_, by omega⟩
      rw [Prod.mk.injEq]; omega
    · have ih := cuts_fold c r (i + 1) b f (by omega)
      simp only [List.foldl_cons, stepC, if_neg e, cuts, List.length_cons]
      rw [show i + 1 - b = i - b + 1 by omega] at ih
      refine ⟨ih.1.trans ?_, by omega⟩
      rw [Prod.mk.injEq]; omega
theorem kind_pos (s : Str) : 1 ≤ Builtin.Str.strKind s := by
  unfold Builtin.Str.strKind; split <;> (try split) <;> omega
theorem parts_len (x : Str) (cs : List Nat) : (Builtin.Str.partsBetween x cs 1).length = cs.length + 1 := by
  unfold Builtin.Str.partsBetween; simp
theorem parts_last (x : Str) : ∀ (cs : List Nat) (b : Nat), (((b :: cs.map (· + 1)).zip (cs ++ [x.length])).map fun (p : Nat × Nat) => Builtin.Str.strSub x p.1 p.2).getLast? = some (Builtin.Str.strSub x (lastB b cs) x.length)
  | [], b => by simp [lastB]
  | k :: r, b => by
    have ih := parts_last x r (k + 1)
    simp only [List.map_cons, List.cons_append, List.zip_cons_cons, lastB] at ih ⊢
    rw [List.getLast?_cons, ih]; rfl
/-- the parts of a text between its c: how many, and the last one -/
theorem split_shape (x : Str) (c : Nat) (hk : Builtin.Str.strKind ⟨#[c]⟩ = 1) : (Txt.split x ⟨#[c]⟩).length = (shape c x.cps.toList).1 + 1 ∧ ∃ y, (Txt.split x ⟨#[c]⟩).getLast? = some y ∧ y.length = (shape c x.cps.toList).2 := by
  obtain ⟨h1, h2⟩ := cuts_fold c x.cps.toList 0 0 0 (Nat.le_refl _)
  have h1 : shape c x.cps.toList = ((cuts c 0 x.cps.toList).length, x.length - lastB 0 (cuts c 0 x.cps.toList)) := by
    unfold shape
    simp only [Nat.zero_add] at h1
    rw [h1]; simp [Str.length]
  rw [h1]
  have hx : x.cps.toList.length = x.length := by simp [Str.length]
  unfold Txt.split
  by_cases h0 : x.length = 0
  · have : x.cps.toList = [] := List.eq_nil_of_length_eq_zero (by omega)
    rw [this]
    rw [if_pos (by rw [Bool.or_eq_true]; left; rw [h0]; simp [Str.length])]
    simp [cuts, lastB, h0]
  · have n1 : decide (x.length < (⟨#[c]⟩ : Str).length) = false := decide_eq_false (by simp [Str.length] at h0 ⊢; exact h0)
    have n2 : decide (Builtin.Str.strKind x < Builtin.Str.strKind ⟨#[c]⟩) = false := decide_eq_false (by rw [hk]; have := kind_pos x; omega)
    rw [n1, n2, Bool.or_false, if_neg Bool.false_ne_true, occ_cuts]
    cases e : cuts c 0 x.cps.toList with
    | nil => simp [lastB]
    | cons k r =>
      rw [if_neg (by simp)]
      refine ⟨parts_len x _, Builtin.Str.strSub x (lastB 0 (k :: r)) x.length, ?_, ?_⟩
      · exact parts_last x (k :: r) 0
      · simp [Builtin.Str.strSub, Str.length]
end DL
end

section
open PySem DL
set_option linter.all false
set_option Elab.async false
set_option maxRecDepth 100000
set_option maxHeartbeats 1000000
/-! plain facts of texts as lists of code points: parts, counts, places -/
namespace DL
/-- a text of code points -/
def mk (cs : List Nat) : Str := ⟨cs.toArray⟩
theorem mk_cps (x : Str) : mk x.cps.toList = x := by cases x; rfl
@[simp] theorem cps_mk (cs : List Nat) : (mk cs).cps.toList = cs := rfl
@[simp] theorem mk_length (cs : List Nat) : (mk cs).length = cs.length := by simp [mk, Str.length]
theorem mk_inj {a b : List Nat} : mk a = mk b ↔ a = b := ⟨fun h => by have := congrArg (fun x => x.cps.toList) h; simpa using this, fun h => by rw [h]⟩
theorem mk_app (a b : List Nat) : mk a ++ mk b = mk (a ++ b) := by
  show (⟨_⟩ : Str) = ⟨_⟩
  simp [mk]
theorem mk_beq (a b : List Nat) : (mk a == mk b) = decide (a = b) := by
  by_cases h : a = b
  · subst h; simp
  · simp [h, mk_inj]
/-- the parts between the c -/
def parts (c : Nat) : List Nat → List (List Nat)
  | [] => [[]]
  | a :: r => if a = c then [] :: parts c r else match parts c r with
    | [] => [[a]]
    | p :: ps => (a :: p) :: ps
theorem parts_ne (c : Nat) : ∀ l : List Nat, parts c l ≠ []
  | [] => by simp [parts]
  | a :: r => by
    unfold parts
    split
    · simp
    · split <;> simp
theorem parts_cuts (c : Nat) (x : Str) : ∀ (l pre : List Nat) (b : Nat), b ≤ pre.length → (∀ y ∈ pre.drop b, y ≠ c) → x.cps.toList = pre ++ l →
    (((b :: (cuts c pre.length l).map (· + 1)).zip (cuts c pre.length l ++ [x.length])).map fun (p : Nat × Nat) => Builtin.Str.strSub x p.1 p.2) = (match parts c l with | [] => [] | p :: ps => (pre.drop b ++ p) :: ps).map mk
  | [], pre, b, hb, hn, hx => by
    have hl : x.length = pre.length := by have := congrArg List.length hx; simpa [Str.length] using this
    have e : x.cps.extract b x.length = (pre.drop b).toArray := by
      apply Array.toList_inj.mp
      rw [Array.toList_extract, List.extract_eq_drop_take, hx, List.append_nil, hl]
      exact List.take_of_length_le (by simp)
    simp only [cuts, parts, List.map_nil, List.nil_append, List.zip_cons_cons, List.zip_nil_left, List.map_cons, List.append_nil]
    unfold Builtin.Str.strSub mk
    rw [e]
  | a :: r, pre, b, hb, hn, hx => by
    have hx2 : x.cps.toList = (pre ++ [a]) ++ r := by rw [hx]; simp
    by_cases h : a = c
    · have ih := parts_cuts c x r (pre ++ [a]) (pre.length + 1) (by simp) (by simp) hx2
      simp only [List.length_append, List.length_singleton] at ih
      have e : x.cps.extract b pre.length = (pre.drop b).toArray := by
        apply Array.toList_inj.mp
        rw [Array.toList_extract, List.extract_eq_drop_take, hx, List.drop_append_of_le_length hb, List.take_append_of_le_length (by simp)]
        exact List.take_of_length_le (by simp)
      simp only [cuts, if_pos h, parts, List.map_cons, List.cons_append, List.zip_cons_cons, List.append_nil]
      refine List.cons_eq_cons.mpr ⟨by unfold Builtin.Str.strSub mk; rw [e], ?_⟩
      rw [ih]
      have : (pre ++ [a]).drop (pre.length + 1) = [] := by simp
      rw [this]
      cases q : parts c r with
      | nil => exact absurd q (parts_ne c r)
      | cons p ps => simp
    · have hd : (pre ++ [a]).drop b = pre.drop b ++ [a] := List.drop_append_of_le_length hb
      have ih := parts_cuts c x r (pre ++ [a]) b (by simp; omega) (fun y hy => by
        rw [hd, List.mem_append, List.mem_singleton] at hy
        rcases hy with hy | hy
        · exact hn y hy
        · rw [hy]; exact h) hx2
      simp only [List.length_append, List.length_singleton] at ih
      simp only [cuts, if_neg h, parts]
      rw [ih, hd]
      cases q : parts c r with
      | nil => exact absurd q (parts_ne c r)
      | cons p ps => simp
theorem cuts_len (c : Nat) : ∀ (l : List Nat) (i : Nat), (cuts c i l).length = l.count c
  | [], _ => rfl
  | a :: r, i => by
    unfold cuts
    by_cases h : a = c
    · subst h; simp [cuts_len a r]
    · simp [h, cuts_len c r]
theorem cuts_nil {c : Nat} : ∀ {l : List Nat} {i : Nat}, cuts c i l = [] → parts c l = [l]
  | [], _, _ => rfl
  | a :: r, i, h => by
    unfold cuts at h
    by_cases e : a = c
    · rw [if_pos e] at h; cases h
    · rw [if_neg e] at h
      unfold parts
      rw [if_neg e, cuts_nil h]
theorem split_parts (x : Str) (c : Nat) (hk : Builtin.Str.strKind ⟨#[c]⟩ = 1) : Txt.split x ⟨#[c]⟩ = (parts c x.cps.toList).map mk := by
  have hx : x.cps.toList.length = x.length := by simp [Str.length]
  unfold Txt.split
  by_cases h0 : x.length = 0
  · have e : x.cps.toList = [] := List.eq_nil_of_length_eq_zero (by omega)
    rw [if_pos (by rw [Bool.or_eq_true]; left; rw [h0]; simp [Str.length]), e]
    have : x = mk [] := by rw [← mk_cps x, e]
    rw [this]; rfl
  · have n1 : decide (x.length < (⟨#[c]⟩ : Str).length) = false := decide_eq_false (by simp [Str.length] at h0 ⊢; exact h0)
    have n2 : decide (Builtin.Str.strKind x < Builtin.Str.strKind ⟨#[c]⟩) = false := decide_eq_false (by rw [hk]; have := kind_pos x; omega)
    rw [n1, n2, Bool.or_false, if_neg Bool.false_ne_true, occ_cuts]
    have key := parts_cuts c x x.cps.toList [] 0 (Nat.le_refl _) (by simp) (by simp)
    cases e : cuts c 0 x.cps.toList with
    | nil =>
      rw [cuts_nil e]
      simp [mk_cps]
    | cons k ks =>
      simp only [List.length_nil, e] at key
      have : (match parts c x.cps.toList with | [] => [] | p :: ps => (([] : List Nat).drop 0 ++ p) :: ps) = parts c x.cps.toList := by
        cases q : parts c x.cps.toList with
        | nil => rfl
        | cons p ps => simp
      rw [this] at key
      rw [← key]
      rfl
theorem count_eq (x : Str) (c : Nat) : Txt.count x ⟨#[c]⟩ = ((x.cps.toList.count c : Nat) : Int) := by
  unfold Txt.count
  rw [occ_cuts, cuts_len]
end DL
end

section
open PySem DL
set_option linter.all false
set_option Elab.async false
set_option maxRecDepth 100000
set_option maxHeartbeats 1000000
namespace DL
theorem shape_snoc (c : Nat) (l : List Nat) (a : Nat) : shape c (l ++ [a]) = stepC c (shape c l) a := by unfold shape; rw [List.foldl_append]; rfl
theorem shape_le (c : Nat) (l : List Nat) : (shape c l).2 ≤ l.length := by
  have h := (cuts_fold c l 0 0 0 (Nat.le_refl _)).1
  simp only [Nat.zero_add, Nat.sub_zero] at h
  unfold shape
  rw [h]
  simp
theorem shape_count (c : Nat) (l : List Nat) : (shape c l).1 = l.count c := by
  have h := (cuts_fold c l 0 0 0 (Nat.le_refl _)).1
  simp only [Nat.zero_add, Nat.sub_zero] at h
  unfold shape
  rw [h, cuts_len]
theorem shape_none {c : Nat} {l : List Nat} (h : c ∉ l) : shape c l = (0, l.length) := by
  have e : cuts c 0 l = [] := List.eq_nil_of_length_eq_zero (by rw [cuts_len]; exact List.count_eq_zero.mpr h)
  have h := (cuts_fold c l 0 0 0 (Nat.le_refl _)).1
  simp only [Nat.zero_add, Nat.sub_zero, e] at h
  unfold shape
  rw [h]; simp [lastB]
/-- the last place of c -/
def lastIx (c : Nat) (l : List Nat) : Option Nat := if c ∈ l then some (l.length - 1 - (shape c l).2) else none
theorem lastIx_snoc (c : Nat) (l : List Nat) (a : Nat) : lastIx c (l ++ [a]) = if a = c then some l.length else lastIx c l := by
  unfold lastIx
  rw [shape_snoc]
  unfold stepC
  by_cases h : a = c
  · subst h; simp
  · have h2 : c ≠ a := Ne.symm h
    simp only [List.mem_append, List.mem_singleton, h2, or_false, if_neg h, List.length_append, List.length_singleton]
    split
    · congr 1; omega
    · rfl
theorem last_loop (x : Str) (c : Nat) : ∀ (k i : Nat) (r : Option Nat), i + k = x.length + 1 → r = lastIx c (x.cps.toList.take i) →
    (forIn (List.range' i k) r fun i __s => if i + (⟨#[c]⟩ : Str).length ≤ x.length ∧ Builtin.Str.subAt x ⟨#[c]⟩ i = true then pure (ForInStep.yield (some i)) else pure (ForInStep.yield __s) : Id (Option Nat)).run = lastIx c x.cps.toList
  | 0, i, r, h, e => by
    have hx : x.cps.toList.length = x.length := by simp [Str.length]
    simp only [List.range'_zero, List.forIn_nil]
    rw [e, List.take_of_length_le (by omega)]; rfl
  | k + 1, i, r, h, e => by
    have hx : x.cps.toList.length = x.length := by simp [Str.length]
    rw [List.range'_succ, List.forIn_cons]
    have hs : Builtin.Str.subAt x ⟨#[c]⟩ i = decide (x.cps.toList[i]? = some c) := by have := sub1 x.cps.toList c i; rwa [show (⟨x.cps.toList.toArray⟩ : Str) = x from mk_cps x] at this
    by_cases hi : i < x.length
    · have ht : x.cps.toList.take (i + 1) = x.cps.toList.take i ++ [x.cps.toList[i]'(by omega)] := (List.take_append_getElem (by omega)).symm
      have hg : x.cps.toList[i]? = some (x.cps.toList[i]'(by omega)) := List.getElem?_eq_getElem (by omega)
      by_cases hc : x.cps.toList[i]'(by omega) = c
      · rw [if_pos ⟨by simp [Str.length] at hi ⊢; omega, by rw [hs, hg, hc]; simp⟩]
        refine last_loop x c k (i + 1) _ (by omega) ?_
        rw [ht, lastIx_snoc, if_pos hc, List.length_take, Nat.min_eq_left (by omega)]
      · rw [if_neg (fun z => by rw [hs, hg] at z; simp at z; exact hc z.2)]
        refine last_loop x c k (i + 1) _ (by omega) ?_
        rw [ht, lastIx_snoc, if_neg hc, e]
    · rw [if_neg (fun z => by have := z.1; simp [Str.length] at this hi; omega)]
      refine last_loop x c k (i + 1) _ (by omega) ?_
      rw [e, List.take_of_length_le (by omega), List.take_of_length_le (by omega)]
theorem rfind_eq (x : Str) (c : Nat) : Txt.rfind x ⟨#[c]⟩ = (x.length : Int) - 1 - ((shape c x.cps.toList).2 : Int) := by
  have hx : x.cps.toList.length = x.length := by simp [Str.length]
  have h : Builtin.Str.lastOccurrence x ⟨#[c]⟩ 0 x.length = lastIx c x.cps.toList := by
    unfold Builtin.Str.lastOccurrence
    simp
    exact last_loop x c (x.length + 1) 0 none (by omega) rfl
  unfold Txt.rfind
  rw [h]
  unfold lastIx
  by_cases hc : c ∈ x.cps.toList
  · rw [if_pos hc]
    have h1 : (shape c x.cps.toList).2 < x.cps.toList.length := by
      have hh := cuts_fold c x.cps.toList 0 0 0 (Nat.le_refl _)
      simp only [Nat.zero_add, Nat.sub_zero] at hh
      unfold shape
      rw [hh.1]
      have : 0 < (cuts c 0 x.cps.toList).length := by rw [cuts_len]; exact List.count_pos_iff.mpr hc
      have lb : ∀ (ks : List Nat) (b : Nat), ks ≠ [] → 0 < lastB b ks := by
        intro ks
        induction ks with
        | nil => intro b h; exact absurd rfl h
        | cons k ks ih => intro b _; cases ks with
          | nil => simp [lastB]
          | cons j js => simp only [lastB] at ih ⊢; exact ih (k + 1) (by simp)
      have h3 := lb (cuts c 0 x.cps.toList) 0 (by intro z; rw [z] at this; simp at this)
      have : 0 < x.cps.toList.length := by cases q : x.cps.toList with
        | nil => rw [q] at hc; cases hc
        | cons => simp
      simp only
      omega
    simp only
    omega
  · rw [if_neg hc, shape_none hc]
    simp only
    omega
/-- lines and positions -/
theorem parts_shape (c : Nat) : ∀ l : List Nat, (parts c l).length = (shape c l).1 + 1 ∧ ∃ p, (parts c l).getLast? = some p ∧ p.length = (shape c l).2 := fun l => by
  have key : ∀ (l : List Nat) (f r : Nat), (parts c l).length + f = (l.foldl (stepC c) (f, r)).1 + 1 ∧ ∃ p, (parts c l).getLast? = some p ∧ (l.foldl (stepC c) (f, r)).2 = p.length + (if c ∈ l then 0 else r) := by
    intro l
    induction l with
    | nil => intro f r; simp [parts]; omega
    | cons a l ih =>
      intro f r
      rw [List.foldl_cons]
      by_cases h : a = c
      · obtain ⟨h1, p, h2, h3⟩ := ih (f + 1) 0
        subst h
        simp only [stepC, if_true, parts, List.length_cons]
        refine ⟨by omega, p, ?_, ?_⟩
        · rw [List.getLast?_cons, h2]; rfl
        · rw [h3]; simp
      · obtain ⟨h1, p, h2, h3⟩ := ih f (r + 1)
        have h' : ¬ c = a := Ne.symm h
        simp only [stepC, if_neg h, parts]
        cases q : parts c l with
        | nil => exact absurd q (parts_ne c l)
        | cons p0 ps =>
          rw [q] at h1 h2
          simp only [List.length_cons] at h1 ⊢
          refine ⟨h1, ?_⟩
          cases ps with
          | nil =>
            simp only [List.getLast?_singleton, Option.some.injEq] at h2
            subst h2
            have nc : c ∉ l := by
              intro z
              have h4 : (l.foldl (stepC c) (f, r + 1)).1 = f := by simp at h1; omega
              have h5 : ∀ (l : List Nat) (s : Nat × Nat), (l.foldl (stepC c) s).1 = s.1 + l.count c := by
                intro l
                induction l with
                | nil => intro s; simp
                | cons b l ih2 =>
                  intro s
                  rw [List.foldl_cons, ih2]
                  unfold stepC
                  by_cases hb : b = c
                  · subst hb; simp; omega
                  · simp [hb]
              rw [h5] at h4
              have : 0 < l.count c := List.count_pos_iff.mpr z
              simp at h4; omega
            exact ⟨a :: p0, rfl, by rw [h3]; simp [nc, h']; omega⟩
          | cons p1 ps =>
            refine ⟨p, ?_, ?_⟩
            · rw [List.getLast?_cons_cons] at h2 ⊢; exact h2
            · have nc : c ∈ l := Classical.byContradiction fun z => by
                have : parts c l = [l] := cuts_nil (i := 0) (List.eq_nil_of_length_eq_zero (by rw [cuts_len]; exact List.count_eq_zero.mpr z))
                rw [this] at q; cases q
              rw [h3]; simp [nc]
  obtain ⟨h1, p, h2, h3⟩ := key l 0 0
  refine ⟨by unfold shape; omega, p, h2, ?_⟩
  unfold shape
  rw [h3]; simp
/-- the index of a position: the lines in front, and the column -/
def idxOf (ps : List (List Nat)) (line col : Nat) : Nat := ((ps.take line).map fun p => p.length + 1).sum + col
/-- a position is in the text -/
def inText (ps : List (List Nat)) (line col : Nat) : Prop := ∃ p, ps[line]? = some p ∧ col ≤ p.length
theorem parts_idx (c : Nat) : ∀ (l : List Nat) (k : Nat), k ≤ l.length → (∃ p, (parts c l)[(shape c (l.take k)).1]? = some p ∧ (shape c (l.take k)).2 ≤ p.length) ∧ idxOf (parts c l) (shape c (l.take k)).1 (shape c (l.take k)).2 = k := by
  intro l
  have key : ∀ (l : List Nat) (k f r : Nat), k ≤ l.length → ∃ g s, (l.take k).foldl (stepC c) (f, r) = (f + g, s) ∧ ∃ p, (parts c l)[g]? = some p ∧ s ≤ p.length + (if g = 0 then r else 0) ∧ idxOf (parts c l) g s = k + (if g = 0 then r else 0) := by
    intro l
    induction l with
    | nil =>
      intro k f r hk
      have : k = 0 := by simpa using hk
      subst this
      exact ⟨0, r, by simp, [], by simp [parts], by simp, by simp [idxOf]⟩
    | cons a l ih =>
      intro k f r hk
      cases k with
      | zero =>
        obtain ⟨p, ps, e⟩ : ∃ p ps, parts c (a :: l) = p :: ps := by
          cases q : parts c (a :: l) with
          | nil => exact absurd q (parts_ne c _)
          | cons p ps => exact ⟨p, ps, rfl⟩
        exact ⟨0, r, by simp, p, by rw [e]; rfl, by simp, by simp [idxOf]⟩
      | succ k =>
        rw [List.take_succ_cons, List.foldl_cons]
        by_cases h : a = c
        · subst h
          obtain ⟨g, s, e1, p, e2, e3, e4⟩ := ih k (f + 1) 0 (by simpa using hk)
          simp only [stepC, if_true]
          refine ⟨g + 1, s, by rw [e1]; simp; omega, p, by simp [parts, e2], by simpa using e3, ?_⟩
          simp [parts, idxOf] at e4 ⊢
          omega
        · obtain ⟨g, s, e1, p, e2, e3, e4⟩ := ih k f (r + 1) (by simpa using hk)
          simp only [stepC, if_neg h]
          refine ⟨g, s, e1, ?_⟩
          unfold parts
          rw [if_neg h]
          cases q : parts c l with
          | nil => exact absurd q (parts_ne c l)
          | cons p0 ps =>
            rw [q] at e2 e4
            cases g with
            | zero =>
              simp at e2
              subst e2
              exact ⟨a :: p0, rfl, by simp at e3 ⊢; omega, by simp [idxOf] at e4 ⊢; omega⟩
            | succ g =>
              simp at e2
              exact ⟨p, by simp [e2], by simpa using e3, by simp [idxOf] at e4 ⊢; omega⟩
  intro k hk
  obtain ⟨g, s, e1, p, e2, e3, e4⟩ := key l k 0 0 hk
  unfold shape
  rw [e1]
  simp at e3 e4
  exact ⟨⟨p, by simpa using e2, e3⟩, by simpa using e4⟩
end DL
end

section
open PySem DL
set_option linter.all false
set_option Elab.async false
set_option maxRecDepth 100000
set_option maxHeartbeats 1000000
/-! WE: data of little depth, and that it equals itself -/
namespace DL
mutual
def okD (k : Nat) : D → Bool
  | .non => true
  | .bl _ => true
  | .int _ => true
  | .str x => x.cps.all (· < 1114112)
  | .tup xs => match k with
    | 0 => false
    | j + 1 => okDs j xs
  | .lst xs => match k with
    | 0 => false
    | j + 1 => okDs j xs
  | _ => false
def okDs (k : Nat) : List D → Bool
  | [] => true
  | d :: ds => okD k d && okDs k ds
end
theorem str_lay {x : Str} (h : x.cps.all (· < 1114112) = true) : PyData.canLay0 (.str x) = true := h
theorem okD_str {k : Nat} {t : List Nat} (h : ∀ c ∈ t, c < 128) : okD k (.str (mk t)) = true := by
  simp only [okD]
  rw [Array.all_eq_true']
  intro x hx
  have := h x (by simpa [mk] using hx)
  simp; omega
mutual
theorem okD_py : ∀ (k : Nat) (d : D), okD k d = true → ∃ p, py d = some p ∧ PyData.canLay0 p = true ∧ PyData.depth p ≤ k
  | k, .non, _ => ⟨.none, rfl, rfl, Nat.zero_le _⟩
  | k, .bl b, _ => ⟨.bool b, rfl, rfl, Nat.zero_le _⟩
  | k, .int i, _ => ⟨.int i, rfl, rfl, Nat.zero_le _⟩
  | k, .str x, h => ⟨.str x, rfl, str_lay (by simpa only [okD] using h), Nat.zero_le _⟩
  | k, .tup xs, h => by
    cases k with
    | zero => simp [okD] at h
    | succ j =>
      obtain ⟨ps, e1, e2, e3⟩ := okDs_py j xs (by simpa [okD] using h)
      exact ⟨.tuple ps, by simp [py, e1], by simpa [PyData.canLay0] using e2, by simp [PyData.depth]; exact e3⟩
  | k, .lst xs, h => by
    cases k with
    | zero => simp [okD] at h
    | succ j =>
      obtain ⟨ps, e1, e2, e3⟩ := okDs_py j xs (by simpa [okD] using h)
      exact ⟨.list ps, by simp [py, e1], by simpa [PyData.canLay0] using e2, by simp [PyData.depth]; exact e3⟩
  | k, .scr _, h => by simp [okD] at h
  | k, .dic _ _, h => by simp [okD] at h
  | k, .ref _, h => by simp [okD] at h
  | k, .con _, h => by simp [okD] at h
  | k, .exc _ _, h => by simp [okD] at h
  | k, .obj _ _, h => by simp [okD] at h
  | k, .lam _ _, h => by simp [okD] at h
theorem okDs_py : ∀ (k : Nat) (ds : List D), okDs k ds = true → ∃ ps, pys ds = some ps ∧ PyData.canLayAll0 ps = true ∧ PyData.depthAll ps ≤ k
  | k, [], _ => ⟨[], rfl, rfl, Nat.zero_le _⟩
  | k, d :: ds, h => by
    simp only [okDs, Bool.and_eq_true] at h
    obtain ⟨p, e1, e2, e3⟩ := okD_py k d h.1
    obtain ⟨ps, f1, f2, f3⟩ := okDs_py k ds h.2
    exact ⟨p :: ps, by simp [pys, e1, f1], by simp [PyData.canLayAll0, e2, f2], by simp [PyData.depthAll]; omega⟩
end
theorem okDs_all {k : Nat} : ∀ {ds : List D}, (∀ d ∈ ds, okD k d = true) → okDs k ds = true
  | [], _ => by simp [okDs]
  | d :: ds, h => by simp only [okDs, Bool.and_eq_true]; exact ⟨h d (List.mem_cons_self ..), okDs_all fun x hx => h x (List.mem_cons_of_mem _ hx)⟩
mutual
theorem okD_cl (n : Nat) : ∀ (k : Nat) (d : D), okD k d = true → cl n d = true
  | k, .non, _ => by simp [cl]
  | k, .bl b, _ => by simp [cl]
  | k, .int i, _ => by simp [cl]
  | k, .str x, h => by simp [cl]
  | k, .tup xs, h => by
    cases k with
    | zero => simp [okD] at h
    | succ j => simp only [cl]; exact okDs_cl n j xs (by simpa [okD] using h)
  | k, .lst xs, h => by
    cases k with
    | zero => simp [okD] at h
    | succ j => simp only [cl]; exact okDs_cl n j xs (by simpa [okD] using h)
  | k, .scr _, h => by simp [okD] at h
  | k, .dic _ _, h => by simp [okD] at h
  | k, .ref _, h => by simp [okD] at h
  | k, .con _, h => by simp [okD] at h
  | k, .exc _ _, h => by simp [okD] at h
  | k, .obj _ _, h => by simp [okD] at h
  | k, .lam _ _, h => by simp [okD] at h
theorem okDs_cl (n : Nat) : ∀ (k : Nat) (ds : List D), okDs k ds = true → cls n ds = true
  | k, [], _ => by simp [cls]
  | k, d :: ds, h => by
    simp only [okDs, Bool.and_eq_true] at h
    simp only [cls, Bool.and_eq_true]
    exact ⟨okD_cl n k d h.1, okDs_cl n k ds h.2⟩
end
theorem eqD0_self {d : D} {p : PyData} {m : S} (h : pyM m d = some p) (c : PyData.canLay0 p = true) (k : PyData.depth p ≤ 64) : eqD0 d d m = .ok (.bl true) m := by
  unfold eqD0
  rw [h]
  have hs : SeqAt.shaped p = true := by unfold SeqAt.shaped; simp [c, k]
  simp only [hs, and_self, if_true, SeqAt.eqv_refl p c]
theorem pyM_py {d : D} {p : PyData} {m : S} (h : py d = some p) : pyM m d = some p := by
  cases d <;> first | exact h | (simp [py] at h)
theorem eq_self {k : Nat} {d : D} (h : okD k d = true) (hk : k ≤ 64) (m : S) : eqF d d m = .ok (.bl true) m := by
  obtain ⟨p, e1, e2, e3⟩ := okD_py k d h
  have e := eqD0_self (m := m) (pyM_py e1) e2 (by omega)
  unfold eqF
  split
  · simp
  · exact e
theorem ne_self {k : Nat} {d : D} (h : okD k d = true) (hk : k ≤ 64) (m : S) : neF d d m = .ok (.bl false) m := by
  obtain ⟨p, e1, e2, e3⟩ := okD_py k d h
  have e := eqD0_self (m := m) (pyM_py e1) e2 (by omega)
  unfold neF
  split
  · simp
  · rw [e]; rfl
/-- a list of the store against a list -/
theorem eq_ref {k n : Nat} {ds : List D} {m : S} (hm : m[n]? = some (.lst ds)) (h : okDs k ds = true) (hk : k < 64) : eqF (.ref n) (.lst ds) m = .ok (.bl true) m := by
  obtain ⟨ps, e1, e2, e3⟩ := okDs_py k ds h
  have h1 : pyM m (.ref n) = some (.list ps) := by simp [pyM, hm, e1]
  have h2 : pyM m (.lst ds) = some (.list ps) := by simp [pyM, py, e1]
  have hs : SeqAt.shaped (.list ps) = true := by unfold SeqAt.shaped; simp [PyData.canLay0, PyData.depth, e2]; omega
  show eqD0 _ _ _ = _
  unfold eqD0
  rw [h1, h2]
  simp only [hs, and_self, if_true, SeqAt.eqv_refl (.list ps) (by simpa [PyData.canLay0] using e2)]
theorem ne_ref {k n : Nat} {ds : List D} {m : S} (hm : m[n]? = some (.lst ds)) (h : okDs k ds = true) (hk : k < 64) : neF (.ref n) (.lst ds) m = .ok (.bl false) m := by
  have := eq_ref hm h hk
  unfold eqF at this
  unfold neF
  simp only at this ⊢
  rw [this]; rfl
end DL
end

section
open PySem DL
set_option linter.all false
set_option Elab.async false
set_option maxRecDepth 100000
set_option maxHeartbeats 2000000
namespace L07

def mixN (n k : Int) : Int := ((((n % 2147483647 + 7919 * k * k + 31 * k) * 48271) % 2147483647) * (69621 + 2 * k)) % 2147483629
theorem mixed_ok (n k : Int) (h1 : -18446744073709551616 < k) (h2 : k < 18446744073709551616) (m : S) : D__law_mixed [.int n, .int k] m = .ok (.int (mixN n k)) m := by
  have hx : ∀ x : Int, -18446744073709551616 < x % 2147483647 ∧ x % 2147483647 < 18446744073709551616 := fun x => by omega
  simp [D__law_mixed, F__law_mixed, runF, seqS, setS, liftS, retS, bin, var, cst, callE, consL, nilL, modF, mulF, addF, intF, intCF, h1, h2, hx, mixN]
theorem mixN_lt (n k : Int) : 0 ≤ mixN n k ∧ mixN n k < 2147483629 := by unfold mixN; omega
theorem stream_ok (n k : Int) (h1 : -18446744073709551616 < k) (h2 : k < 18446744073709551616) (m : S) : D__law_stream [.int n, .int k] m = .ok (.ref m.length) (m ++ [.lst [.int (if 1000000000000000000 ≤ n then n else 0), .int 0, .int (mixN n k)]]) := by
  by_cases h : 1000000000000000000 ≤ n <;>
  simp [D__law_stream, F__law_stream, runF, retS, liftS, newE, consL, nilL, callF, mixed_ok, ifE, isB, bin, geF, powF, intF, var, cst, h1, h2, h]
theorem draw_ok (n : Nat) (m : S) (a c r top : Int) (hm : m[n]? = some (.lst [.int a, .int c, .int r])) (c1 : -1000000 < c) (c2 : c < 1000000000) (t1 : 0 < top) (t2 : top < 18446744073709551616) :
    ∃ v a' : Int, 0 ≤ v ∧ v < top ∧ D__law_draw [.ref n, .int top] m = .ok (.int v) (m.set n (.lst [.int a', .int (c + 1), .int r])) := by
  have hn : n < m.length := (List.getElem?_eq_some_iff.mp hm).1
  have hg : m[n] = .lst [.int a, .int c, .int r] := (List.getElem?_eq_some_iff.mp hm).2
  have k1 : -18446744073709551616 < c + 1 := by omega
  have k2 : c + 1 < 18446744073709551616 := by omega
  by_cases h : a = 0
  · refine ⟨mixN (mixN r (c + 1)) 7 % top, a, Int.emod_nonneg _ (by omega), Int.emod_lt_of_pos _ t1, ?_⟩
    simp [D__law_draw, F__law_draw, runF, seqS, ifS, setS, retS, nextS, setIxS, setF, liftS, bin, var, cst, callE, callF, consL, nilL, modF, fdivF, addF, intF, intCF, ixF, items, elems, eqF, eqD0, isB, pyM, py, PyData.eqv, SeqAt.shaped, PyData.canLay0, PyData.depth, mixed_ok, L2.atI, L2.ixN, hm, hn, hg, k1, k2, t1, t2, h]
  · have hb : (a == 0) = false := by simpa using h
    refine ⟨a % top, a / top, Int.emod_nonneg _ (by omega), Int.emod_lt_of_pos _ t1, ?_⟩
    simp [D__law_draw, F__law_draw, runF, seqS, ifS, setS, retS, nextS, setIxS, setF, liftS, bin, var, cst, callE, callF, consL, nilL, modF, fdivF, addF, intF, intCF, ixF, items, elems, eqF, eqD0, isB, pyM, py, PyData.eqv, SeqAt.shaped, PyData.canLay0, PyData.depth, mixed_ok, L2.atI, L2.ixN, hm, hn, hg, k1, k2, t1, t2, h, hb]
theorem pick_ok (n : Nat) (m : S) (a c r : Int) (ds : List D) (hm : m[n]? = some (.lst [.int a, .int c, .int r])) (c1 : -1000000 < c) (c2 : c < 1000000000) (h1 : 0 < ds.length) (h2 : ds.length < 1000000) :
    ∃ d ∈ ds, ∃ a' : Int, D__law_pick [.ref n, .lst ds] m = .ok d (m.set n (.lst [.int a', .int (c + 1), .int r])) := by
  obtain ⟨v, a', v0, v1, e⟩ := draw_ok n m a c r ds.length hm c1 c2 (by omega) (by omega)
  have hv : v.toNat < ds.length := by omega
  refine ⟨ds[v.toNat], List.getElem_mem hv, a', ?_⟩
  simp [D__law_pick, F__law_pick, runF, retS, liftS, bin, var, callF, callE, consL, nilL, lenF, items, elems, e, ixF, L2.atI, L2.ixN, v0, v1, hv]

theorem draw_st {n : Nat} {b top : Int} {m : S} (sm : Sm n b m) (hb : b < 100000000) (t1 : 0 < top) (t2 : top < 18446744073709551616) :
    ∃ (v : Int) (m' : S), 0 ≤ v ∧ v < top ∧ D__law_draw [.ref n, .int top] m = .ok (.int v) m' ∧ Sm n (b + 1) m' ∧ Stp n m m' := by
  obtain ⟨w, a, c, r, e, c0, c1⟩ := id sm
  obtain ⟨v, a', v0, v1, h⟩ := draw_ok n m a c r top e (by omega) (by omega) t1 t2
  exact ⟨v, _, v0, v1, h, sm_set sm a' (c + 1) r (by omega) (by omega)⟩
theorem pick_st {n : Nat} {b : Int} {m : S} {ds : List D} (sm : Sm n b m) (hb : b < 100000000) (h1 : 0 < ds.length) (h2 : ds.length < 1000000) :
    ∃ d ∈ ds, ∃ m', D__law_pick [.ref n, .lst ds] m = .ok d m' ∧ Sm n (b + 1) m' ∧ Stp n m m' := by
  obtain ⟨w, a, c, r, e, c0, c1⟩ := id sm
  obtain ⟨d, hd, a', h⟩ := pick_ok n m a c r ds e (by omega) (by omega) h1 h2
  exact ⟨d, hd, _, h, sm_set sm a' (c + 1) r (by omega) (by omega)⟩
/-- a text of one sign -/
def One (y : D) : Prop := ∃ c : Nat, c < 128 ∧ y = .str (mk [c])
theorem one_list : ∀ ys : List D, (∀ y ∈ ys, One y) → ∃ cs : List Nat, ys = cs.map (fun c => D.str (mk [c])) ∧ ∀ c ∈ cs, c < 128
  | [], _ => ⟨[], rfl, by simp⟩
  | y :: ys, h => by
    obtain ⟨c, hc, rfl⟩ := h y (List.mem_cons_self ..)
    obtain ⟨cs, rfl, e2⟩ := one_list ys fun z hz => h z (List.mem_cons_of_mem _ hz)
    exact ⟨c :: cs, rfl, fun x hx => by
      rcases List.mem_cons.mp hx with q | q
      · rw [q]; exact hc
      · exact e2 x q⟩
theorem strs_one (cs : List Nat) : strsOf (cs.map fun c => D.str (mk [c])) = some (cs.map fun c => mk [c]) := by
  induction cs with
  | nil => rfl
  | cons c cs ih => simp [strsOf, ih]
theorem glue_one : ∀ (cs : List Nat) (acc : Array Nat), ((cs.map fun c => mk [c]).foldl (fun acc p => acc ++ (#[] : Array Nat) ++ p.cps) acc) = acc ++ cs.toArray
  | [], acc => by simp
  | c :: cs, acc => by
    rw [List.map_cons, List.foldl_cons, glue_one cs]
    apply Array.toList_inj.mp
    simp [mk]
theorem join_one (cs : List Nat) : Txt.join ⟨#[]⟩ (cs.map fun c => mk [c]) = mk cs := by
  cases cs with
  | nil => rfl
  | cons c cs =>
    simp only [Txt.join, Builtin.Str.glued, List.map_cons, List.drop_succ_cons, List.drop_zero, List.headD_cons]
    rw [glue_one cs]
    unfold mk
    simp
theorem empty_str : ("" : Str) = ⟨#[]⟩ := by rfl
theorem items_lst (m : S) (ys : List D) : items m (.lst ys) = some ys := by rfl
def abc : List D := [.str "a", .str "b", .str "\n", .str " ", .str "a", .str "c"]
theorem abc_one : ∀ d ∈ abc, One d := fun d hd => by
  unfold abc at hd
  simp only [List.mem_cons, List.not_mem_nil, or_false] at hd
  rcases hd with rfl | rfl | rfl | rfl | rfl | rfl
  · exact ⟨97, by decide, rfl⟩
  · exact ⟨98, by decide, rfl⟩
  · exact ⟨10, by decide, rfl⟩
  · exact ⟨32, by decide, rfl⟩
  · exact ⟨97, by decide, rfl⟩
  · exact ⟨99, by decide, rfl⟩
def pickE : E1 := E__law_signs_1
theorem pickE_args (n : Nat) (M : S) (x1 x2 x3 : Option D) : (consL (var 0) (consL (lstE (consL (cst (.str "a")) (consL (cst (.str "b")) (consL (cst (.str "\n")) (consL (cst (.str " ")) (consL (cst (.str "a")) (consL (cst (.str "c")) nilL))))))) nilL)) [some (.ref n), x1, x2, x3] M = .ok [.ref n, .lst abc] M := by
  simp only [consL, var, lstE, cst, nilL, R.bind_ok, List.getElem?_cons_zero, List.length_cons, List.length_nil]
  rw [if_pos (by decide)]
  rfl
theorem pickE_st (n : Nat) (x1 x2 x3 : Option D) (b : Int) (M : S) (sm : Sm n b M) (hb : b < 100000000) : ∃ y M', pickE [some (.ref n), x1, x2, x3] M = .ok y M' ∧ One y ∧ Sm n (b + 1) M' ∧ Stp n M M' := by
  obtain ⟨d, hd, M', e, sm', st'⟩ := pick_st (ds := abc) sm hb (by decide) (by decide)
  refine ⟨d, M', ?_, abc_one d hd, sm', st'⟩
  unfold pickE E__law_signs_1
  exact callF_ok (pickE_args n M x1 x2 x3) e
theorem join_st (ys : List D) (h : ∀ y ∈ ys, One y) (hl : ys.length ≤ 1000) (m : S) : ∃ t : List Nat, t.length = ys.length ∧ (∀ c ∈ t, c < 128) ∧ joinF (.str "") [.lst ys] m = .ok (.str (mk t)) m := by
  obtain ⟨cs, rfl, z⟩ := one_list ys h
  refine ⟨cs, by simp, z, ?_⟩
  rw [empty_str]
  have hs : ((cs.map fun c => mk [c]).map (·.length)).sum = cs.length := by
    clear z h hl
    induction cs with
    | nil => rfl
    | cons z zs ih => simp only [List.map_cons, List.sum_cons, List.length_cons, mk_length, List.length_nil] at ih ⊢; rw [ih]; omega
  have : ((cs.map fun c => mk [c]).map (·.length)).sum + (cs.map fun c => mk [c]).length * (⟨#[]⟩ : Str).length ≤ cap := by
    rw [hs, show (⟨#[]⟩ : Str).length = 0 from rfl, Nat.mul_zero, Nat.add_zero]; simp at hl; unfold cap; omega
  simp only [joinF, items_lst, strs_one, if_pos this, join_one]
theorem two62 : (1000 : Int) < 2 ^ 62 := by decide
theorem rng_args (k : Nat) (hk : k ≤ 1000) (x0 x1 x3 : Option D) (m : S) : rngF (consL (var 2) nilL) [x0, x1, some (.int k), x3] m = .ok (rngD k) m := by
  have e : consL (var 2) nilL [x0, x1, some (.int k), x3] m = .ok [.int k] m := rfl
  unfold rngF
  rw [e, R.bind_ok]
  refine if_pos ?_
  have h := two62
  generalize (2 : Int) ^ 62 = z at h ⊢
  omega
theorem rng_len (k : Nat) : (rngD k).length = k := by simp [rngD]
theorem join_meth (f : E1) (μ : Env') (m m2 : S) (ys : List D) (x : Str) (h : f μ m = .ok (.lst ys) m2) (j : joinF (.str "") [.lst ys] m2 = .ok (.str x) m2) : methE "str" joinF (cst (.str "")) (consL f nilL) μ m = .ok (.str x) m2 := by
  unfold methE cst
  rw [R.bind_ok, if_pos (by rfl), consL_ok h (show nilL μ m2 = .ok [] m2 from rfl), R.bind_ok]
  exact j
theorem signs_st {n most : Nat} {b : Int} {m : S} (sm : Sm n b m) (hb : b < 10000000) (hm : most ≤ 100) :
    ∃ (t : List Nat) (m' : S), t.length ≤ most ∧ (∀ c ∈ t, c < 128) ∧ D__law_signs [.ref n, .int most] m = .ok (.str (mk t)) m' ∧ Sm n (b + most + 2) m' ∧ Stp n m m' := by
  obtain ⟨v, m1, v0, v1, e1, sm1, st1⟩ := draw_st (top := (most : Int) + 1) sm (by omega) (by omega) (by omega)
  obtain ⟨k, rfl⟩ := Int.eq_ofNat_of_zero_le v0
  have hk : k ≤ most := by omega
  have hB : b + 1 + (rngD k).length ≤ b + 1 + k := by rw [rng_len]; omega
  obtain ⟨ys, m2, e2, e3, e4, sm2, st2⟩ := lcE_st (n := n) (vs := [3]) (f := rngF (consL (var 2) nilL)) (g := gNm 3) (te := pickE) (μ := [some (.ref n), some (.int most), some (.int k), none]) (P := One) (B := b + 1 + k) (b := b + 1) (m := m1) (ds := rngD k)
    (fun y ⟨c, _, h⟩ j => by rw [h]; simp only [cl]) (rng_args k (by omega) _ _ _ m1) (fun x hx => ⟨_, rfl, fun b' M smM hb' => pickE_st n _ _ _ b' M smM (by omega)⟩) sm1 hB (by rw [rng_len]; unfold cap; omega)
  rw [rng_len] at e3 sm2
  obtain ⟨x, x1, xc, x2⟩ := join_st ys e4 (by omega) m2
  refine ⟨x, m2, by omega, xc, runF_ret ?_, sm2.mono (by omega), st1.trans st2⟩
  have d1 : setS 2 (callF D__law_draw [] (consL (var 0) (consL (bin addF (var 1) (cst (.int 1))) nilL))) [some (.ref n), some (.int most), none, none] m = .nx [some (.ref n), some (.int most), some (.int k), none] m1 :=
    setS_ok (callF_ok (ds := [.ref n, .int (most + 1)]) (by rfl) e1)
  show F__law_signs [some (.ref n), some (.int most), none, none] m = _
  unfold F__law_signs
  rw [seqS_nx d1]
  exact retS_ok (join_meth _ _ _ _ ys (mk x) e2 x2)

theorem draw_wp {n : Nat} {b : Int} (top : Nat) {m : S} {Q : D → S → Prop} (sm : Sm n b m) (hb : b < 100000000) (t1 : 0 < top) (t2 : top < 1000000000000)
    (k : ∀ (v : Nat) (m' : S), v < top → Sm n (b + 1) m' → Stp n m m' → Q (.int v) m') : Wp (D__law_draw [.ref n, .int top] m) Q := by
  obtain ⟨v, m', v0, v1, e, s1, s2⟩ := draw_st (top := (top : Int)) sm hb (by omega) (by omega)
  obtain ⟨j, rfl⟩ := Int.eq_ofNat_of_zero_le v0
  exact wp_eq e (k j m' (by omega) s1 s2)
theorem pick_wp {n : Nat} {b : Int} {m : S} {ds : List D} {Q : D → S → Prop} (sm : Sm n b m) (hb : b < 100000000) (h1 : 0 < ds.length) (h2 : ds.length < 1000000)
    (k : ∀ d ∈ ds, ∀ m', Sm n (b + 1) m' → Stp n m m' → Q d m') : Wp (D__law_pick [.ref n, .lst ds] m) Q := by
  obtain ⟨d, hd, m', e, s1, s2⟩ := pick_st sm hb h1 h2
  exact wp_eq e (k d hd m' s1 s2)
theorem signs_wp {n : Nat} {b : Int} (most : Nat) {m : S} {Q : D → S → Prop} (sm : Sm n b m) (hb : b < 10000000) (hm : most ≤ 100)
    (k : ∀ (t : List Nat) (m' : S), t.length ≤ most → (∀ c ∈ t, c < 128) → Sm n (b + most + 2) m' → Stp n m m' → Q (.str (mk t)) m') : Wp (D__law_signs [.ref n, .int most] m) Q := by
  obtain ⟨t, m', h1, h2, e, s1, s2⟩ := signs_st sm hb hm
  exact wp_eq e (k t m' h1 h2 s1 s2)
end L07
end

section
open PySem DL
set_option linter.all false
set_option Elab.async false
set_option maxRecDepth 100000
set_option maxHeartbeats 2000000
namespace L07
theorem isi_non_int (m : S) : isiI 4 5 CS SUP [.non, .con (.ty "int")] m = .ok (.bl false) m := by rfl
theorem isi_bl_int (b : Bool) (m : S) : isiI 4 5 CS SUP [.bl b, .con (.ty "int")] m = .ok (.bl true) m := by rfl
theorem isi_int_int (i : Int) (m : S) : isiI 4 5 CS SUP [.int i, .con (.ty "int")] m = .ok (.bl true) m := by rfl
theorem isi_str_int (x : Str) (m : S) : isiI 4 5 CS SUP [.str x, .con (.ty "int")] m = .ok (.bl false) m := by rfl
theorem isi_tup_int (ds : List D) (m : S) : isiI 4 5 CS SUP [.tup ds, .con (.ty "int")] m = .ok (.bl false) m := by rfl
theorem isi_lst_int (ds : List D) (m : S) : isiI 4 5 CS SUP [.lst ds, .con (.ty "int")] m = .ok (.bl false) m := by rfl
theorem isi_dic_int (ks : List L2.Key) (ds : List D) (m : S) : isiI 4 5 CS SUP [.dic ks ds, .con (.ty "int")] m = .ok (.bl false) m := by rfl
theorem isi_non_bool (m : S) : isiI 4 5 CS SUP [.non, .con (.ty "bool")] m = .ok (.bl false) m := by rfl
theorem isi_bl_bool (b : Bool) (m : S) : isiI 4 5 CS SUP [.bl b, .con (.ty "bool")] m = .ok (.bl true) m := by rfl
theorem isi_int_bool (i : Int) (m : S) : isiI 4 5 CS SUP [.int i, .con (.ty "bool")] m = .ok (.bl false) m := by rfl
theorem isi_str_bool (x : Str) (m : S) : isiI 4 5 CS SUP [.str x, .con (.ty "bool")] m = .ok (.bl false) m := by rfl
theorem isi_tup_bool (ds : List D) (m : S) : isiI 4 5 CS SUP [.tup ds, .con (.ty "bool")] m = .ok (.bl false) m := by rfl
theorem isi_lst_bool (ds : List D) (m : S) : isiI 4 5 CS SUP [.lst ds, .con (.ty "bool")] m = .ok (.bl false) m := by rfl
theorem isi_dic_bool (ks : List L2.Key) (ds : List D) (m : S) : isiI 4 5 CS SUP [.dic ks ds, .con (.ty "bool")] m = .ok (.bl false) m := by rfl
theorem isi_non_str (m : S) : isiI 4 5 CS SUP [.non, .con (.ty "str")] m = .ok (.bl false) m := by rfl
theorem isi_bl_str (b : Bool) (m : S) : isiI 4 5 CS SUP [.bl b, .con (.ty "str")] m = .ok (.bl false) m := by rfl
theorem isi_int_str (i : Int) (m : S) : isiI 4 5 CS SUP [.int i, .con (.ty "str")] m = .ok (.bl false) m := by rfl
theorem isi_str_str (x : Str) (m : S) : isiI 4 5 CS SUP [.str x, .con (.ty "str")] m = .ok (.bl true) m := by rfl
theorem isi_tup_str (ds : List D) (m : S) : isiI 4 5 CS SUP [.tup ds, .con (.ty "str")] m = .ok (.bl false) m := by rfl
theorem isi_lst_str (ds : List D) (m : S) : isiI 4 5 CS SUP [.lst ds, .con (.ty "str")] m = .ok (.bl false) m := by rfl
theorem isi_dic_str (ks : List L2.Key) (ds : List D) (m : S) : isiI 4 5 CS SUP [.dic ks ds, .con (.ty "str")] m = .ok (.bl false) m := by rfl
theorem isi_non_tuple (m : S) : isiI 4 5 CS SUP [.non, .con (.ty "tuple")] m = .ok (.bl false) m := by rfl
theorem isi_bl_tuple (b : Bool) (m : S) : isiI 4 5 CS SUP [.bl b, .con (.ty "tuple")] m = .ok (.bl false) m := by rfl
theorem isi_int_tuple (i : Int) (m : S) : isiI 4 5 CS SUP [.int i, .con (.ty "tuple")] m = .ok (.bl false) m := by rfl
theorem isi_str_tuple (x : Str) (m : S) : isiI 4 5 CS SUP [.str x, .con (.ty "tuple")] m = .ok (.bl false) m := by rfl
theorem isi_tup_tuple (ds : List D) (m : S) : isiI 4 5 CS SUP [.tup ds, .con (.ty "tuple")] m = .ok (.bl true) m := by rfl
theorem isi_lst_tuple (ds : List D) (m : S) : isiI 4 5 CS SUP [.lst ds, .con (.ty "tuple")] m = .ok (.bl false) m := by rfl
theorem isi_dic_tuple (ks : List L2.Key) (ds : List D) (m : S) : isiI 4 5 CS SUP [.dic ks ds, .con (.ty "tuple")] m = .ok (.bl false) m := by rfl
theorem nl_str : ("\n" : Str) = mk [10] := by rfl
theorem nl_kind : Builtin.Str.strKind ⟨#[10]⟩ = 1 := by unfold Builtin.Str.strKind; simp
theorem nat_ok (k : Int) (m : S) : D_is_natural [.int k] m = .ok (.bl (decide (0 ≤ k))) m := by rfl
theorem text_ok (x : Str) (m : S) : D_need_text [.str x] m = .ok .non m := by rfl
def pos (l c : Nat) : D := .tup [.int l, .int c]
theorem eq22 (m : S) : eqF (.int 2) (.int 2) m = .ok (.bl true) m := by rfl
theorem place_is (a b : Nat) (m : S) : D_is_place [pos a b] m = .ok (.bl true) m := by
  simp [D_is_place, F_is_place, runF, seqS, ifS, setS, retS, exprS, liftS, liftL, nextS, notB, isB, orB, andB, andE, orE, notE, DL.bin, DL.var, cst, callE, callF, callK, pick, consL, nilL, tupE, lstE, raiseS, asgS, gTp, gCn, gNm, gNl, ifE, methE, tyD, elems, items, R.bind_ok, R.bind_err, R.bind_bad, intF, addF, subF, geF, leF, gtF, ltF, lt2F, negE, negF, ixF, slE, someP, noP, slF, lenF, forS, loopS, itE, itT, itF, mthE, mthK, propE, noErr, fldE, fldF, fldAt, insOf, callOE, callOK, cmE, cmK, makeE, makeK, makeB, makeV, setFldS, setFldF, setAt, eqO, neO, kindOf, onlyBl, isi_non_int, isi_bl_int, isi_int_int, isi_str_int, isi_tup_int, isi_lst_int, isi_dic_int, isi_non_bool, isi_bl_bool, isi_int_bool, isi_str_bool, isi_tup_bool, isi_lst_bool, isi_dic_bool, isi_non_str, isi_bl_str, isi_int_str, isi_str_str, isi_tup_str, isi_lst_str, isi_dic_str, isi_non_tuple, isi_bl_tuple, isi_int_tuple, isi_str_tuple, isi_tup_tuple, isi_lst_tuple, isi_dic_tuple, pos, eq22, nat_ok, L2.atI, L2.ixN]
/-- a position is less than another one -/
def ltP (p q : Nat × Nat) : Prop := p.1 < q.1 ∨ p.1 = q.1 ∧ p.2 < q.2
instance (p q : Nat × Nat) : Decidable (ltP p q) := by unfold ltP; infer_instance
theorem lex2 (a b c d : Nat) : HT.lexLt [(a : Int), b] [(c : Int), d] = decide (ltP (a, b) (c, d)) := by
  unfold ltP
  simp only [HT.lexLt]
  by_cases h : a = c
  · subst h
    by_cases h2 : b = d
    · subst h2; simp
    · have : ¬ (b : Int) = d := by omega
      simp [this]
  · have : ¬ (a : Int) = c := by omega
    simp [this, h]
theorem lt_ok (a b c d : Nat) (m : S) : lt2F (pos a b) (pos c d) m = .ok (.bl (decide (ltP (a, b) (c, d)))) m := by
  simp only [lt2F, pos, intsOf, Option.map_some]
  rw [lex2]
theorem places_ok (a b c d : Nat) (h : ¬ ltP (c, d) (a, b)) (m : S) : D_need_places [pos a b, pos c d] m = .ok .non m := by
  simp [D_need_places, F_need_places, runF, seqS, ifS, nextS, notB, isB, orB, DL.bin, DL.var, callF, consL, nilL, raiseS, liftS, place_is, lt_ok, h]
theorem places_err (a b c d : Nat) (h : ltP (c, d) (a, b)) (m : S) : D_need_places [pos a b, pos c d] m = .err 0 [pos c d] m := by
  simp [D_need_places, F_need_places, runF, seqS, ifS, nextS, notB, isB, orB, DL.bin, DL.var, callF, consL, nilL, raiseS, liftS, place_is, lt_ok, h]
theorem split_ok (t : List Nat) (h : t.length ≤ 1000) (m : S) : splitF (.str (mk t)) [.str (mk [10])] m = .ok (.lst ((parts 10 t).map fun p => .str (mk p))) m := by
  have e := split_parts (mk t) 10 nl_kind
  have e2 : Txt.split (mk t) (mk [10]) = (parts 10 t).map mk := e
  simp only [splitF]
  rw [if_pos ⟨by rfl, by rw [mk_length]; unfold cap; omega⟩, e2, List.map_map]
  rfl
def ptsD (t : List Nat) : List D := (parts 10 t).map fun p => .str (mk p)
theorem getLast_at {l : List D} {y : D} (h : l.getLast? = some y) : L2.atI l (-1) = some y := by
  have hl : 0 < l.length := by cases l with
    | nil => cases h
    | cons => simp
  have e : l[l.length - 1]? = some y := by rw [← List.getLast?_eq_getElem?]; exact h
  have i : L2.ixN l.length (-1) = some (l.length - 1) := by
    unfold L2.ixN
    rw [if_neg (by omega), if_pos (by omega)]
    congr 1
    omega
  unfold L2.atI
  rw [i]
  exact e
theorem shape_of_ok (t : List Nat) (h : t.length ≤ 1000) (m : S) : D_shape_of [.str (mk t)] m = .ok (pos (shape 10 t).1 (shape 10 t).2) m := by
  obtain ⟨h1, p, h2, h3⟩ := parts_shape 10 t
  have hl : L2.atI (ptsD t) (-1) = some (.str (mk p)) := getLast_at (by unfold ptsD; rw [List.getLast?_map, h2]; rfl)
  have hp : (shape 10 t).2 ≤ cap := by have := shape_le 10 t; unfold cap; omega
  unfold ptsD at hl
  simp [D_shape_of, F_shape_of, runF, seqS, ifS, setS, retS, exprS, liftS, liftL, nextS, notB, isB, orB, andB, andE, orE, notE, DL.bin, DL.var, cst, callE, callF, callK, pick, consL, nilL, tupE, lstE, raiseS, asgS, gTp, gCn, gNm, gNl, ifE, methE, tyD, elems, items, R.bind_ok, R.bind_err, R.bind_bad, intF, addF, subF, geF, leF, gtF, ltF, lt2F, negE, negF, ixF, slE, someP, noP, slF, lenF, forS, loopS, itE, itT, itF, mthE, mthK, propE, noErr, fldE, fldF, fldAt, insOf, callOE, callOK, cmE, cmK, makeE, makeK, makeB, makeV, setFldS, setFldF, setAt, eqO, neO, kindOf, onlyBl, nl_str, split_ok t h, hl, h1, h3, hp, pos]
theorem cut_pre (t : List Nat) (k : Nat) (h : k ≤ t.length) : L2.cutS (mk t) none (some (k : Int)) = mk (t.take k) := by
  unfold L2.cutS
  rw [HT.sIx_none, HT.sIx_nat, mk_length, Nat.min_eq_left h]
  rfl
theorem cut_mid (t : List Nat) (j k : Nat) (hj : j ≤ k) (h : k ≤ t.length) : L2.cutS (mk t) (some (j : Int)) (some (k : Int)) = mk ((t.drop j).take (k - j)) := by
  unfold L2.cutS
  rw [HT.sIx_nat, HT.sIx_nat, mk_length, Nat.min_eq_left h, Nat.min_eq_left (by omega)]
  rfl
end L07
end

section
open PySem DL
set_option linter.all false
set_option Elab.async false
set_option maxRecDepth 100000
set_option maxHeartbeats 2000000
namespace DL
theorem intsOf_map (ns : List Int) : intsOf (ns.map .int) = some ns := by
  induction ns with
  | nil => rfl
  | cons n ns ih => simp [intsOf, ih]
theorem cls_ints (n : Nat) (ns : List Int) : cls n (ns.map .int) = true := by
  induction ns with
  | nil => simp only [List.map_nil, cls]
  | cons k ns ih => simp only [List.map_cons, cls, cl, ih, Bool.and_self]
theorem cutD_pre (l : List D) (k : Nat) : cutD l none (some (k : Int)) = l.take k := by
  unfold cutD
  rw [HT.sIx_none, HT.sIx_nat]
  simp
end DL
namespace L07
def lensD (ps : List (List Nat)) (k : Nat) : List D := ((ps.take k).map fun p => ((p.length : Nat) : Int) + 1).map .int
def lensS (ps : List (List Nat)) (k : Nat) : Int := ((ps.take k).map fun p => ((p.length : Nat) : Int) + 1).sum
theorem sum_lens (ps : List (List Nat)) (k : Nat) (m : S) : sumF [.lst (lensD ps k)] m = .ok (.int (lensS ps k)) m := by
  unfold lensD sumF
  simp only [elems, intsOf_map]
  rfl
theorem neg_nat (k : Nat) : ((k : Int) < 0) = False := by simp
theorem sums_ok (ps : List (List Nat)) (k : Nat) (hp : ∀ p ∈ ps, p.length ≤ cap) (hl : ps.length ≤ cap) (m : S) (wf : Wf m) (x0 x1 x3 x4 x5 : Option D) (h3 : x3 = some (.int k)) :
    lcE [5] (itE itF (slE (var 2) noP (someP (var 3)))) (gNm 5) yesB E_found_index_1 [x0, x1, some (.lst (ps.map fun p => .str (mk p))), x3, x4, x5] m = .ok (.lst (lensD ps k)) m := by
  subst h3
  unfold lensD
  have := lcE_pure (vs := [5]) (f := itE itF (slE (var 2) noP (someP (var 3)))) (g := gNm 5) (tt := yesB) (te := E_found_index_1) (μ := [x0, x1, some (.lst (ps.map fun p => .str (mk p))), some (.int k), x4, x5]) (m := m)
    (h := fun d => match d with | .str x => .int (((x.length : Nat) : Int) + 1) | d => d) (ds := (ps.take k).map fun p => .str (mk p)) (by simp [runF, seqS, ifS, setS, retS, exprS, liftS, liftL, nextS, notB, isB, orB, andB, andE, orE, notE, DL.bin, DL.var, cst, callE, callF, callK, pick, consL, nilL, tupE, lstE, raiseS, asgS, gTp, gCn, gNm, gNl, ifE, methE, tyD, elems, items, R.bind_ok, R.bind_err, R.bind_bad, intF, addF, subF, geF, leF, gtF, ltF, lt2F, negE, negF, ixF, slE, someP, noP, slF, lenF, forS, loopS, itE, itT, itF, mthE, mthK, propE, noErr, fldE, fldF, fldAt, insOf, callOE, callOK, cmE, cmK, makeE, makeK, makeB, makeV, setFldS, setFldF, setAt, eqO, neO, kindOf, onlyBl, cutD_pre, List.map_take]) (fun x hx => by
      obtain ⟨p, hp1, rfl⟩ := List.mem_map.mp hx
      have hp2 := hp p (List.mem_of_mem_take hp1)
      refine ⟨_, rfl, fun m' => ⟨rfl, ?_⟩⟩
      simp [wipeD, E_found_index_1, runF, seqS, ifS, setS, retS, exprS, liftS, liftL, nextS, notB, isB, orB, andB, andE, orE, notE, DL.bin, DL.var, cst, callE, callF, callK, pick, consL, nilL, tupE, lstE, raiseS, asgS, gTp, gCn, gNm, gNl, ifE, methE, tyD, elems, items, R.bind_ok, R.bind_err, R.bind_bad, intF, addF, subF, geF, leF, gtF, ltF, lt2F, negE, negF, ixF, slE, someP, noP, slF, lenF, forS, loopS, itE, itT, itF, mthE, mthK, propE, noErr, fldE, fldF, fldAt, insOf, callOE, callOK, cmE, cmK, makeE, makeK, makeB, makeV, setFldS, setFldF, setAt, eqO, neO, kindOf, onlyBl, hp2]) (by simp; omega) wf (by
      rw [List.map_map]
      have := cls_ints m.length ((ps.take k).map fun p => ((p.length : Nat) : Int) + 1)
      rw [List.map_map] at this
      simpa [Function.comp_def] using this)
  rw [this]
  simp [List.map_map, Function.comp_def]
theorem sum_idx (ps : List (List Nat)) (l c : Nat) : lensS ps l + (c : Int) = ((idxOf ps l c : Nat) : Int) := by
  unfold lensS
  unfold idxOf
  have : ∀ qs : List (List Nat), (qs.map fun p => ((p.length : Nat) : Int) + 1).sum = (((qs.map fun p => p.length + 1).sum : Nat) : Int) := fun qs => by
    induction qs with
    | nil => rfl
    | cons q qs ih => simp only [List.map_cons, List.sum_cons, ih]; omega
  rw [this]; omega
theorem parts_small (t : List Nat) : (parts 10 t).length ≤ t.length + 1 ∧ ∀ p ∈ parts 10 t, p.length ≤ t.length := by
  induction t with
  | nil => simp [parts]
  | cons a t ih =>
    unfold parts
    split
    · refine ⟨by simp; omega, fun p hp => ?_⟩
      rcases List.mem_cons.mp hp with h | h
      · subst h; simp
      · have := ih.2 p h; simp; omega
    · cases q : parts 10 t with
      | nil => exact absurd q (parts_ne 10 t)
      | cons p0 ps =>
        rw [q] at ih
        simp only [List.length_cons] at ih ⊢
        refine ⟨by omega, fun p hp => ?_⟩
        rcases List.mem_cons.mp hp with h | h
        · subst h; have := ih.2 p0 (List.mem_cons_self ..); simp; omega
        · have := ih.2 p (List.mem_cons_of_mem _ h); omega
/-- the index of a position of a text, or -1 -/
def ixP (t : List Nat) (l c : Nat) : Int := match (parts 10 t)[l]? with
  | some p => if c ≤ p.length then (idxOf (parts 10 t) l c : Nat) else -1
  | none => -1
theorem found_ok (t : List Nat) (h : t.length ≤ 1000) (l c : Nat) (m : S) (wf : Wf m) : D_found_index [.str (mk t), pos l c] m = .ok (.int (ixP t l c)) m := by
  have hs := parts_small t
  have hl : (parts 10 t).length ≤ cap := by unfold cap; omega
  have hp : ∀ p ∈ parts 10 t, p.length ≤ cap := fun p hp => by have := hs.2 p hp; unfold cap; omega
  have hsum := fun x0 x1 x4 x5 => sums_ok (parts 10 t) l hp hl m wf x0 x1 (some (.int l)) x4 x5 rfl
  by_cases h1 : l < (parts 10 t).length
  · have e : (parts 10 t)[l]? = some (parts 10 t)[l] := List.getElem?_eq_getElem h1
    have hpl := hp _ (List.getElem_mem h1)
    have n1 : ¬ (parts 10 t).length ≤ l := by omega
    by_cases h2 : c ≤ ((parts 10 t)[l]).length
    · have n2 : ¬ ((parts 10 t)[l]).length < c := by omega
      simp [D_found_index, F_found_index, runF, seqS, ifS, setS, retS, exprS, liftS, liftL, nextS, notB, isB, orB, andB, andE, orE, notE, DL.bin, DL.var, cst, callE, callF, callK, pick, consL, nilL, tupE, lstE, raiseS, asgS, gTp, gCn, gNm, gNl, ifE, methE, tyD, elems, items, R.bind_ok, R.bind_err, R.bind_bad, intF, addF, subF, geF, leF, gtF, ltF, lt2F, negE, negF, ixF, slE, someP, noP, slF, lenF, forS, loopS, itE, itT, itF, mthE, mthK, propE, noErr, fldE, fldF, fldAt, insOf, callOE, callOK, cmE, cmK, makeE, makeK, makeB, makeV, setFldS, setFldF, setAt, eqO, neO, kindOf, onlyBl, pos, nl_str, split_ok t h, h1, n1, L2.atI, L2.ixN, hpl, n2, hsum, sum_lens, sum_idx, ixP, e, h2]
    · have n2 : ((parts 10 t)[l]).length < c := by omega
      simp [D_found_index, F_found_index, runF, seqS, ifS, setS, retS, exprS, liftS, liftL, nextS, notB, isB, orB, andB, andE, orE, notE, DL.bin, DL.var, cst, callE, callF, callK, pick, consL, nilL, tupE, lstE, raiseS, asgS, gTp, gCn, gNm, gNl, ifE, methE, tyD, elems, items, R.bind_ok, R.bind_err, R.bind_bad, intF, addF, subF, geF, leF, gtF, ltF, lt2F, negE, negF, ixF, slE, someP, noP, slF, lenF, forS, loopS, itE, itT, itF, mthE, mthK, propE, noErr, fldE, fldF, fldAt, insOf, callOE, callOK, cmE, cmK, makeE, makeK, makeB, makeV, setFldS, setFldF, setAt, eqO, neO, kindOf, onlyBl, pos, nl_str, split_ok t h, h1, n1, L2.atI, L2.ixN, hpl, n2, hsum, ixP, e, h2]
  · have e : (parts 10 t)[l]? = none := List.getElem?_eq_none (by omega)
    have n1 : (parts 10 t).length ≤ l := by omega
    simp [D_found_index, F_found_index, runF, seqS, ifS, setS, retS, exprS, liftS, liftL, nextS, notB, isB, orB, andB, andE, orE, notE, DL.bin, DL.var, cst, callE, callF, callK, pick, consL, nilL, tupE, lstE, raiseS, asgS, gTp, gCn, gNm, gNl, ifE, methE, tyD, elems, items, R.bind_ok, R.bind_err, R.bind_bad, intF, addF, subF, geF, leF, gtF, ltF, lt2F, negE, negF, ixF, slE, someP, noP, slF, lenF, forS, loopS, itE, itT, itF, mthE, mthK, propE, noErr, fldE, fldF, fldAt, insOf, callOE, callOK, cmE, cmK, makeE, makeK, makeB, makeV, setFldS, setFldF, setAt, eqO, neO, kindOf, onlyBl, pos, nl_str, split_ok t h, n1, ixP, e]
theorem need_ix_ok (t : List Nat) (h : t.length ≤ 1000) (l c : Nat) (m : S) (wf : Wf m) (k : Nat) (e : ixP t l c = k) : D_need_index [.str (mk t), pos l c] m = .ok (.int k) m := by
  have := found_ok t h l c m wf
  rw [e] at this
  simp [D_need_index, F_need_index, runF, seqS, ifS, setS, retS, exprS, liftS, liftL, nextS, notB, isB, orB, andB, andE, orE, notE, DL.bin, DL.var, cst, callE, callF, callK, pick, consL, nilL, tupE, lstE, raiseS, asgS, gTp, gCn, gNm, gNl, ifE, methE, tyD, elems, items, R.bind_ok, R.bind_err, R.bind_bad, intF, addF, subF, geF, leF, gtF, ltF, lt2F, negE, negF, ixF, slE, someP, noP, slF, lenF, forS, loopS, itE, itT, itF, mthE, mthK, propE, noErr, fldE, fldF, fldAt, insOf, callOE, callOK, cmE, cmK, makeE, makeK, makeB, makeV, setFldS, setFldF, setAt, eqO, neO, kindOf, onlyBl, this, neg_nat]
theorem need_ix_err (t : List Nat) (h : t.length ≤ 1000) (l c : Nat) (m : S) (wf : Wf m) (e : ixP t l c = -1) : D_need_index [.str (mk t), pos l c] m = .err 3 [pos l c] m := by
  have := found_ok t h l c m wf
  rw [e] at this
  simp [D_need_index, F_need_index, runF, seqS, ifS, setS, retS, exprS, liftS, liftL, nextS, notB, isB, orB, andB, andE, orE, notE, DL.bin, DL.var, cst, callE, callF, callK, pick, consL, nilL, tupE, lstE, raiseS, asgS, gTp, gCn, gNm, gNl, ifE, methE, tyD, elems, items, R.bind_ok, R.bind_err, R.bind_bad, intF, addF, subF, geF, leF, gtF, ltF, lt2F, negE, negF, ixF, slE, someP, noP, slF, lenF, forS, loopS, itE, itT, itF, mthE, mthK, propE, noErr, fldE, fldF, fldAt, insOf, callOE, callOK, cmE, cmK, makeE, makeK, makeB, makeV, setFldS, setFldF, setAt, eqO, neO, kindOf, onlyBl, this, neg_nat]
end L07
end

section
open PySem DL
set_option linter.all false
set_option Elab.async false
set_option maxRecDepth 100000
set_option maxHeartbeats 4000000
namespace DL
theorem wf_take {m : S} {ob : Ob} (w : Wf m) : ((m ++ [ob]).take m.length).all (clOb m.length) = true := by
  rw [List.take_left']
  · exact w
  · rfl
theorem wf_all {m : S} (w : Wf m) : m.all (clOb m.length) = true := w
theorem cl_str (n : Nat) (x : Str) : cl n (.str x) = true := by simp [cl]
theorem ok_pos (a b : Nat) : okD 1 (.tup [.int a, .int b]) = true := by simp [okD, okDs]
/-- positions: the sum of extents -/
def comb (p q : Nat × Nat) : Nat × Nat := if 0 < q.1 then (p.1 + q.1, q.2) else (p.1, p.2 + q.2)
theorem comb_step (c : Nat) (s : Nat × Nat) (a : Nat) : stepC c s a = comb s (stepC c (0, 0) a) := by
  unfold stepC comb
  by_cases h : a = c <;> simp [h]
theorem comb_assoc (p q r : Nat × Nat) : comb (comb p q) r = comb p (comb q r) := by
  obtain ⟨a, b⟩ := p; obtain ⟨c, d⟩ := q; obtain ⟨e, f⟩ := r
  unfold comb
  by_cases h1 : 0 < c <;> by_cases h2 : 0 < e
  · have : 0 < c + e := by omega
    simp [h1, h2, this, Nat.add_assoc]
  · simp [h1, h2, Nat.add_assoc]
  · have c0 : c = 0 := by omega
    subst c0; simp [h2]
  · have c0 : c = 0 := by omega
    have e0 : e = 0 := by omega
    subst c0; subst e0; simp [Nat.add_assoc]
theorem comb_zero (p : Nat × Nat) : comb p (0, 0) = p := by simp [comb]
theorem fold_comb (c : Nat) : ∀ (cs : List Nat) (s : Nat × Nat), cs.foldl (stepC c) s = comb s (shape c cs)
  | [], s => (comb_zero s).symm
  | a :: r, s => by
    unfold shape
    rw [List.foldl_cons, List.foldl_cons, fold_comb c r (stepC c s a), fold_comb c r (stepC c (0, 0) a), comb_step c s a, comb_assoc]
theorem shape_app (c : Nat) (x y : List Nat) : shape c (x ++ y) = comb (shape c x) (shape c y) := by
  conv => lhs; unfold shape
  rw [List.foldl_append, fold_comb]; rfl
end DL
namespace L07
theorem sne_own_low_own_high : (("own_low" : Str) = "own_high") = False := eq_false (by decide +kernel)
theorem sne_own_low_own_fresh : (("own_low" : Str) = "own_fresh") = False := eq_false (by decide +kernel)
theorem sne_own_high_own_low : (("own_high" : Str) = "own_low") = False := eq_false (by decide +kernel)
theorem sne_own_high_own_fresh : (("own_high" : Str) = "own_fresh") = False := eq_false (by decide +kernel)
theorem sne_own_fresh_own_low : (("own_fresh" : Str) = "own_low") = False := eq_false (by decide +kernel)
theorem sne_own_fresh_own_high : (("own_fresh" : Str) = "own_high") = False := eq_false (by decide +kernel)
theorem added_ok (p q : Nat × Nat) (m : S) : D_added [pos p.1 p.2, pos q.1 q.2] m = .ok (pos (comb p q).1 (comb p q).2) m := by
  obtain ⟨a, b⟩ := p; obtain ⟨c, d⟩ := q
  by_cases h : 0 < c <;> simp [D_added, F_added, runF, seqS, ifS, setS, retS, exprS, liftS, liftL, nextS, notB, isB, orB, andB, andE, orE, notE, DL.bin, DL.var, cst, callE, callF, callK, pick, consL, nilL, tupE, lstE, raiseS, asgS, gTp, gCn, gNm, gNl, ifE, methE, tyD, elems, items, R.bind_ok, R.bind_err, R.bind_bad, intF, addF, subF, geF, leF, gtF, ltF, lt2F, negE, negF, ixF, slE, someP, noP, slF, lenF, forS, loopS, itE, itT, itF, mthE, mthK, propE, noErr, fldE, fldF, fldAt, insOf, callOE, callOK, cmE, cmK, makeE, makeK, makeB, makeV, setFldS, setFldF, setAt, eqO, neO, kindOf, onlyBl, pos, L2.atI, L2.ixN, comb, h]
theorem behind_ok (a b : Nat) (t : List Nat) (h : t.length ≤ 1000) (m : S) : D_place_behind [pos a b, .str (mk t)] m = .ok (pos (comb (a, b) (shape 10 t)).1 (comb (a, b) (shape 10 t)).2) m := by
  have := added_ok (a, b) (shape 10 t) m
  simp [D_place_behind, F_place_behind, runF, seqS, ifS, setS, retS, exprS, liftS, liftL, nextS, notB, isB, orB, andB, andE, orE, notE, DL.bin, DL.var, cst, callE, callF, callK, pick, consL, nilL, tupE, lstE, raiseS, asgS, gTp, gCn, gNm, gNl, ifE, methE, tyD, elems, items, R.bind_ok, R.bind_err, R.bind_bad, intF, addF, subF, geF, leF, gtF, ltF, lt2F, negE, negF, ixF, slE, someP, noP, slF, lenF, forS, loopS, itE, itT, itF, mthE, mthK, propE, noErr, fldE, fldF, fldAt, insOf, callOE, callOK, cmE, cmK, makeE, makeK, makeB, makeV, setFldS, setFldF, setAt, eqO, neO, kindOf, onlyBl, shape_of_ok t h, this]
/-- an edit -/
def ed (l h : Nat × Nat) (f : List Nat) : D := .obj 4 [pos l.1 l.2, pos h.1 h.2, .str (mk f)]
theorem cl_pos (n a b : Nat) : cl n (pos a b) = true := by simp [pos, cl, cls]
theorem ed_ok (l h : Nat × Nat) (f : List Nat) (n : ¬ ltP h l) (m : S) (wf : Wf m) : makeF 4 D_Edit___init__ [pos l.1 l.2, pos h.1 h.2, .str (mk f)] m = .ok (ed l h f) m := by
  have hm := wf_all wf
  simp [makeF, D_Edit___init__, F_Edit___init__, runF, seqS, ifS, setS, retS, exprS, liftS, liftL, nextS, notB, isB, orB, andB, andE, orE, notE, DL.bin, DL.var, cst, callE, callF, callK, pick, consL, nilL, tupE, lstE, raiseS, asgS, gTp, gCn, gNm, gNl, ifE, methE, tyD, elems, items, R.bind_ok, R.bind_err, R.bind_bad, intF, addF, subF, geF, leF, gtF, ltF, lt2F, negE, negF, ixF, slE, someP, noP, slF, lenF, forS, loopS, itE, itT, itF, mthE, mthK, propE, noErr, fldE, fldF, fldAt, insOf, callOE, callOK, cmE, cmK, makeE, makeK, makeB, makeV, setFldS, setFldF, setAt, eqO, neO, kindOf, onlyBl, places_ok l.1 l.2 h.1 h.2 n, text_ok, TT, sne_own_low_own_high, sne_own_low_own_fresh, sne_own_high_own_low, sne_own_high_own_fresh, sne_own_fresh_own_low, sne_own_fresh_own_high, takeO, cls, cl_pos, cl_str, hm, ed]
theorem ixP_le (t : List Nat) (a b k : Nat) (e : ixP t a b = k) : k ≤ t.length := by
  have key : ∀ (u : List Nat) (a b : Nat) (p : List Nat), (parts 10 u)[a]? = some p → b ≤ p.length → idxOf (parts 10 u) a b ≤ u.length := by
    intro u
    induction u with
    | nil =>
      intro a b p e hb
      cases a with
      | zero => simp [parts] at e; subst e; simp [idxOf]; simpa using hb
      | succ a => simp [parts] at e
    | cons c u ih =>
      intro a b p e hb
      unfold parts at e ⊢
      split at e
      · rename_i hc
        rw [if_pos hc]
        cases a with
        | zero => simp at e; subst e; simp at hb; simp [idxOf, hb]
        | succ a =>
          have := ih a b p (by simpa using e) hb
          simp [idxOf] at this ⊢
          omega
      · rename_i hc
        rw [if_neg hc]
        cases q : parts 10 u with
        | nil => exact absurd q (parts_ne 10 u)
        | cons p0 ps =>
          rw [q] at e ih
          simp only at e ⊢
          cases a with
          | zero =>
            simp at e; subst e
            by_cases hb0 : b ≤ p0.length
            · have := ih 0 b p0 rfl hb0
              simp [idxOf] at this ⊢; omega
            · have := ih 0 p0.length p0 rfl (Nat.le_refl _)
              simp [idxOf] at this hb ⊢; omega
          | succ a =>
            have := ih (a + 1) b p (by simpa using e) hb
            simp [idxOf] at this ⊢; try omega
  unfold ixP at e
  cases q : (parts 10 t)[a]? with
  | none => rw [q] at e; simp at e
  | some p =>
    rw [q] at e
    simp only at e
    split at e
    · have := key t a b p q (by assumption); omega
    · omega
theorem call_ok (l h : Nat × Nat) (f t : List Nat) (ht : t.length ≤ 500) (hf : f.length ≤ 500) (i j : Nat) (hi : ixP t l.1 l.2 = i) (hj : ixP t h.1 h.2 = j) (m : S) (wf : Wf m) : D_Edit___call__ [ed l h f, .str (mk t)] m = .ok (.str (mk (t.take i ++ f ++ t.drop j))) m := by
  have lt : t.length ≤ cap := by unfold cap; omega
  have n1 := need_ix_ok t (by omega) l.1 l.2 m wf i hi
  have n2 := need_ix_ok t (by omega) h.1 h.2 m wf j hj
  have il : i ≤ t.length ∧ j ≤ t.length := ⟨ixP_le t _ _ _ hi, ixP_le t _ _ _ hj⟩
  have cd : L2.cutS (mk t) (some (j : Int)) none = mk (t.drop j) := by
    unfold L2.cutS
    rw [HT.sIx_nat, HT.sIx_none, mk_length, Nat.min_eq_left il.2]
    show mk ((t.drop j).take (t.length - j)) = _
    rw [List.take_of_length_le (by simp)]
  have k1 : (t.take i).length + f.length ≤ cap := by simp; unfold cap; omega
  have k2 : (t.take i ++ f).length + (t.drop j).length ≤ cap := by simp; unfold cap; omega
  simp at k1 k2
  simp [D_Edit___call__, F_Edit___call__, runF, seqS, ifS, setS, retS, exprS, liftS, liftL, nextS, notB, isB, orB, andB, andE, orE, notE, DL.bin, DL.var, cst, callE, callF, callK, pick, consL, nilL, tupE, lstE, raiseS, asgS, gTp, gCn, gNm, gNl, ifE, methE, tyD, elems, items, R.bind_ok, R.bind_err, R.bind_bad, intF, addF, subF, geF, leF, gtF, ltF, lt2F, negE, negF, ixF, slE, someP, noP, slF, lenF, forS, loopS, itE, itT, itF, mthE, mthK, propE, noErr, fldE, fldF, fldAt, insOf, callOE, callOK, cmE, cmK, makeE, makeK, makeB, makeV, setFldS, setFldF, setAt, eqO, neO, kindOf, onlyBl, parS, text_ok, ed, TT, sne_own_low_own_high, sne_own_low_own_fresh, sne_own_high_own_low, sne_own_high_own_fresh, sne_own_fresh_own_low, sne_own_fresh_own_high, n1, n2, lt, cut_pre t i il.1, cd, mk_app, k1, k2]
theorem call_err1 (l h : Nat × Nat) (f t : List Nat) (ht : t.length ≤ 500) (hi : ixP t l.1 l.2 = -1) (m : S) (wf : Wf m) : D_Edit___call__ [ed l h f, .str (mk t)] m = .err 3 [pos l.1 l.2] m := by
  have n1 := need_ix_err t (by omega) l.1 l.2 m wf hi
  simp [D_Edit___call__, F_Edit___call__, runF, seqS, ifS, setS, retS, exprS, liftS, liftL, nextS, notB, isB, orB, andB, andE, orE, notE, DL.bin, DL.var, cst, callE, callF, callK, pick, consL, nilL, tupE, lstE, raiseS, asgS, gTp, gCn, gNm, gNl, ifE, methE, tyD, elems, items, R.bind_ok, R.bind_err, R.bind_bad, intF, addF, subF, geF, leF, gtF, ltF, lt2F, negE, negF, ixF, slE, someP, noP, slF, lenF, forS, loopS, itE, itT, itF, mthE, mthK, propE, noErr, fldE, fldF, fldAt, insOf, callOE, callOK, cmE, cmK, makeE, makeK, makeB, makeV, setFldS, setFldF, setAt, eqO, neO, kindOf, onlyBl, parS, text_ok, ed, TT, sne_own_low_own_high, sne_own_low_own_fresh, sne_own_high_own_low, sne_own_high_own_fresh, sne_own_fresh_own_low, sne_own_fresh_own_high, n1]
theorem call_err2 (l h : Nat × Nat) (f t : List Nat) (ht : t.length ≤ 500) (i : Nat) (hi : ixP t l.1 l.2 = i) (hj : ixP t h.1 h.2 = -1) (m : S) (wf : Wf m) : D_Edit___call__ [ed l h f, .str (mk t)] m = .err 3 [pos h.1 h.2] m := by
  have n1 := need_ix_ok t (by omega) l.1 l.2 m wf i hi
  have n2 := need_ix_err t (by omega) h.1 h.2 m wf hj
  simp [D_Edit___call__, F_Edit___call__, runF, seqS, ifS, setS, retS, exprS, liftS, liftL, nextS, notB, isB, orB, andB, andE, orE, notE, DL.bin, DL.var, cst, callE, callF, callK, pick, consL, nilL, tupE, lstE, raiseS, asgS, gTp, gCn, gNm, gNl, ifE, methE, tyD, elems, items, R.bind_ok, R.bind_err, R.bind_bad, intF, addF, subF, geF, leF, gtF, ltF, lt2F, negE, negF, ixF, slE, someP, noP, slF, lenF, forS, loopS, itE, itT, itF, mthE, mthK, propE, noErr, fldE, fldF, fldAt, insOf, callOE, callOK, cmE, cmK, makeE, makeK, makeB, makeV, setFldS, setFldF, setAt, eqO, neO, kindOf, onlyBl, parS, text_ok, ed, TT, sne_own_low_own_high, sne_own_low_own_fresh, sne_own_high_own_low, sne_own_high_own_fresh, sne_own_fresh_own_low, sne_own_fresh_own_high, n1, n2]
theorem call_w {w : D} (HW : ∀ m, D_need_text [w] m = .err 1 [.non] m) (l h : Nat × Nat) (f : List Nat) (m : S) : D_Edit___call__ [ed l h f, w] m = .err 1 [.non] m := by
  simp [D_Edit___call__, F_Edit___call__, runF, seqS, ifS, setS, retS, exprS, liftS, liftL, nextS, notB, isB, orB, andB, andE, orE, notE, DL.bin, DL.var, cst, callE, callF, callK, pick, consL, nilL, tupE, lstE, raiseS, asgS, gTp, gCn, gNm, gNl, ifE, methE, tyD, elems, items, R.bind_ok, R.bind_err, R.bind_bad, intF, addF, subF, geF, leF, gtF, ltF, lt2F, negE, negF, ixF, slE, someP, noP, slF, lenF, forS, loopS, itE, itT, itF, mthE, mthK, propE, noErr, fldE, fldF, fldAt, insOf, callOE, callOK, cmE, cmK, makeE, makeK, makeB, makeV, setFldS, setFldF, setAt, eqO, neO, kindOf, onlyBl, HW]
theorem nh_ok (l h : Nat × Nat) (f : List Nat) (hf : f.length ≤ 500) (m : S) : D_Edit_new_high [ed l h f] m = .ok (pos (comb l (shape 10 f)).1 (comb l (shape 10 f)).2) m := by
  have := behind_ok l.1 l.2 f (by omega) m
  simp [D_Edit_new_high, F_Edit_new_high, runF, seqS, ifS, setS, retS, exprS, liftS, liftL, nextS, notB, isB, orB, andB, andE, orE, notE, DL.bin, DL.var, cst, callE, callF, callK, pick, consL, nilL, tupE, lstE, raiseS, asgS, gTp, gCn, gNm, gNl, ifE, methE, tyD, elems, items, R.bind_ok, R.bind_err, R.bind_bad, intF, addF, subF, geF, leF, gtF, ltF, lt2F, negE, negF, ixF, slE, someP, noP, slF, lenF, forS, loopS, itE, itT, itF, mthE, mthK, propE, noErr, fldE, fldF, fldAt, insOf, callOE, callOK, cmE, cmK, makeE, makeK, makeB, makeV, setFldS, setFldF, setAt, eqO, neO, kindOf, onlyBl, ed, TT, sne_own_low_own_high, sne_own_low_own_fresh, sne_own_high_own_low, sne_own_high_own_fresh, sne_own_fresh_own_low, sne_own_fresh_own_high, this]
theorem low_ok (l h : Nat × Nat) (f : List Nat) (m : S) : D_Edit_low [ed l h f] m = .ok (pos l.1 l.2) m := by
  simp [D_Edit_low, F_Edit_low, runF, seqS, ifS, setS, retS, exprS, liftS, liftL, nextS, notB, isB, orB, andB, andE, orE, notE, DL.bin, DL.var, cst, callE, callF, callK, pick, consL, nilL, tupE, lstE, raiseS, asgS, gTp, gCn, gNm, gNl, ifE, methE, tyD, elems, items, R.bind_ok, R.bind_err, R.bind_bad, intF, addF, subF, geF, leF, gtF, ltF, lt2F, negE, negF, ixF, slE, someP, noP, slF, lenF, forS, loopS, itE, itT, itF, mthE, mthK, propE, noErr, fldE, fldF, fldAt, insOf, callOE, callOK, cmE, cmK, makeE, makeK, makeB, makeV, setFldS, setFldF, setAt, eqO, neO, kindOf, onlyBl, ed, TT, sne_own_low_own_high, sne_own_low_own_fresh, sne_own_high_own_low, sne_own_high_own_fresh, sne_own_fresh_own_low, sne_own_fresh_own_high]
theorem high_ok (l h : Nat × Nat) (f : List Nat) (m : S) : D_Edit_high [ed l h f] m = .ok (pos h.1 h.2) m := by
  simp [D_Edit_high, F_Edit_high, runF, seqS, ifS, setS, retS, exprS, liftS, liftL, nextS, notB, isB, orB, andB, andE, orE, notE, DL.bin, DL.var, cst, callE, callF, callK, pick, consL, nilL, tupE, lstE, raiseS, asgS, gTp, gCn, gNm, gNl, ifE, methE, tyD, elems, items, R.bind_ok, R.bind_err, R.bind_bad, intF, addF, subF, geF, leF, gtF, ltF, lt2F, negE, negF, ixF, slE, someP, noP, slF, lenF, forS, loopS, itE, itT, itF, mthE, mthK, propE, noErr, fldE, fldF, fldAt, insOf, callOE, callOK, cmE, cmK, makeE, makeK, makeB, makeV, setFldS, setFldF, setAt, eqO, neO, kindOf, onlyBl, ed, TT, sne_own_low_own_high, sne_own_low_own_fresh, sne_own_high_own_low, sne_own_high_own_fresh, sne_own_fresh_own_low, sne_own_fresh_own_high]
theorem fresh_ok (l h : Nat × Nat) (f : List Nat) (m : S) : D_Edit_fresh [ed l h f] m = .ok (.str (mk f)) m := by
  simp [D_Edit_fresh, F_Edit_fresh, runF, seqS, ifS, setS, retS, exprS, liftS, liftL, nextS, notB, isB, orB, andB, andE, orE, notE, DL.bin, DL.var, cst, callE, callF, callK, pick, consL, nilL, tupE, lstE, raiseS, asgS, gTp, gCn, gNm, gNl, ifE, methE, tyD, elems, items, R.bind_ok, R.bind_err, R.bind_bad, intF, addF, subF, geF, leF, gtF, ltF, lt2F, negE, negF, ixF, slE, someP, noP, slF, lenF, forS, loopS, itE, itT, itF, mthE, mthK, propE, noErr, fldE, fldF, fldAt, insOf, callOE, callOK, cmE, cmK, makeE, makeK, makeB, makeV, setFldS, setFldF, setAt, eqO, neO, kindOf, onlyBl, ed, TT, sne_own_low_own_high, sne_own_low_own_fresh, sne_own_high_own_low, sne_own_high_own_fresh, sne_own_fresh_own_low, sne_own_fresh_own_high]
theorem comb_ge (p q : Nat × Nat) : ¬ ltP (comb p q) p := by
  unfold ltP comb
  split <;> simp
  omega
theorem opp_ok (l h : Nat × Nat) (f t : List Nat) (ht : t.length ≤ 500) (hf : f.length ≤ 500) (i j : Nat) (hi : ixP t l.1 l.2 = i) (hj : ixP t h.1 h.2 = j) (ij : i ≤ j) (m : S) (wf : Wf m) :
    D_Edit_opposite [ed l h f, .str (mk t)] m = .ok (ed l (comb l (shape 10 f)) ((t.drop i).take (j - i))) m := by
  have lt : t.length ≤ cap := by unfold cap; omega
  have n1 := need_ix_ok t (by omega) l.1 l.2 m wf i hi
  have n2 := need_ix_ok t (by omega) h.1 h.2 m wf j hj
  have n3 := nh_ok l h f hf m
  have n4 := ed_ok l (comb l (shape 10 f)) ((t.drop i).take (j - i)) (comb_ge _ _) m wf
  unfold ed at n3 n4 ⊢
  simp [D_Edit_opposite, F_Edit_opposite, runF, seqS, ifS, setS, retS, exprS, liftS, liftL, nextS, notB, isB, orB, andB, andE, orE, notE, DL.bin, DL.var, cst, callE, callF, callK, pick, consL, nilL, tupE, lstE, raiseS, asgS, gTp, gCn, gNm, gNl, ifE, methE, tyD, elems, items, R.bind_ok, R.bind_err, R.bind_bad, intF, addF, subF, geF, leF, gtF, ltF, lt2F, negE, negF, ixF, slE, someP, noP, slF, lenF, forS, loopS, itE, itT, itF, mthE, mthK, propE, noErr, fldE, fldF, fldAt, insOf, callOE, callOK, cmE, cmK, makeE, makeK, makeB, makeV, setFldS, setFldF, setAt, eqO, neO, kindOf, onlyBl, parS, text_ok, TT, sne_own_low_own_high, sne_own_low_own_fresh, sne_own_high_own_low, sne_own_high_own_fresh, sne_own_fresh_own_low, sne_own_fresh_own_high, n1, n2, disp_new_high, n3, lt, cut_mid t i j ij (ixP_le t _ _ _ hj), n4]
theorem opp_err1 (l h : Nat × Nat) (f t : List Nat) (ht : t.length ≤ 500) (hi : ixP t l.1 l.2 = -1) (m : S) (wf : Wf m) : D_Edit_opposite [ed l h f, .str (mk t)] m = .err 3 [pos l.1 l.2] m := by
  have n1 := need_ix_err t (by omega) l.1 l.2 m wf hi
  simp [D_Edit_opposite, F_Edit_opposite, runF, seqS, ifS, setS, retS, exprS, liftS, liftL, nextS, notB, isB, orB, andB, andE, orE, notE, DL.bin, DL.var, cst, callE, callF, callK, pick, consL, nilL, tupE, lstE, raiseS, asgS, gTp, gCn, gNm, gNl, ifE, methE, tyD, elems, items, R.bind_ok, R.bind_err, R.bind_bad, intF, addF, subF, geF, leF, gtF, ltF, lt2F, negE, negF, ixF, slE, someP, noP, slF, lenF, forS, loopS, itE, itT, itF, mthE, mthK, propE, noErr, fldE, fldF, fldAt, insOf, callOE, callOK, cmE, cmK, makeE, makeK, makeB, makeV, setFldS, setFldF, setAt, eqO, neO, kindOf, onlyBl, parS, text_ok, ed, TT, sne_own_low_own_high, sne_own_low_own_fresh, sne_own_high_own_low, sne_own_high_own_fresh, sne_own_fresh_own_low, sne_own_fresh_own_high, n1]
theorem opp_err2 (l h : Nat × Nat) (f t : List Nat) (ht : t.length ≤ 500) (i : Nat) (hi : ixP t l.1 l.2 = i) (hj : ixP t h.1 h.2 = -1) (m : S) (wf : Wf m) : D_Edit_opposite [ed l h f, .str (mk t)] m = .err 3 [pos h.1 h.2] m := by
  have n1 := need_ix_ok t (by omega) l.1 l.2 m wf i hi
  have n2 := need_ix_err t (by omega) h.1 h.2 m wf hj
  simp [D_Edit_opposite, F_Edit_opposite, runF, seqS, ifS, setS, retS, exprS, liftS, liftL, nextS, notB, isB, orB, andB, andE, orE, notE, DL.bin, DL.var, cst, callE, callF, callK, pick, consL, nilL, tupE, lstE, raiseS, asgS, gTp, gCn, gNm, gNl, ifE, methE, tyD, elems, items, R.bind_ok, R.bind_err, R.bind_bad, intF, addF, subF, geF, leF, gtF, ltF, lt2F, negE, negF, ixF, slE, someP, noP, slF, lenF, forS, loopS, itE, itT, itF, mthE, mthK, propE, noErr, fldE, fldF, fldAt, insOf, callOE, callOK, cmE, cmK, makeE, makeK, makeB, makeV, setFldS, setFldF, setAt, eqO, neO, kindOf, onlyBl, parS, text_ok, ed, TT, sne_own_low_own_high, sne_own_low_own_fresh, sne_own_high_own_low, sne_own_high_own_fresh, sne_own_fresh_own_low, sne_own_fresh_own_high, n1, n2]
theorem opp_w {w : D} (HW : ∀ m, D_need_text [w] m = .err 1 [.non] m) (l h : Nat × Nat) (f : List Nat) (m : S) : D_Edit_opposite [ed l h f, w] m = .err 1 [.non] m := by
  simp [D_Edit_opposite, F_Edit_opposite, runF, seqS, ifS, setS, retS, exprS, liftS, liftL, nextS, notB, isB, orB, andB, andE, orE, notE, DL.bin, DL.var, cst, callE, callF, callK, pick, consL, nilL, tupE, lstE, raiseS, asgS, gTp, gCn, gNm, gNl, ifE, methE, tyD, elems, items, R.bind_ok, R.bind_err, R.bind_bad, intF, addF, subF, geF, leF, gtF, ltF, lt2F, negE, negF, ixF, slE, someP, noP, slF, lenF, forS, loopS, itE, itT, itF, mthE, mthK, propE, noErr, fldE, fldF, fldAt, insOf, callOE, callOK, cmE, cmK, makeE, makeK, makeB, makeV, setFldS, setFldF, setAt, eqO, neO, kindOf, onlyBl, HW]
theorem eq_pos (p q : Nat × Nat) (m : S) : eqF (pos p.1 p.2) (pos q.1 q.2) m = .ok (.bl (decide (p = q))) m := by
  obtain ⟨a, b⟩ := p; obtain ⟨c, d⟩ := q
  have e : PyData.eqv (.tuple [.int a, .int b]) (.tuple [.int c, .int d]) = decide ((a, b) = (c, d)) := by
    by_cases h1 : a = c <;> by_cases h2 : b = d <;> simp [PyData.eqv, PyData.eqvAll, h1, h2] <;> omega
  simp [eqF, pos, eqD0, pyM, py, pys, SeqAt.shaped, PyData.canLay0, PyData.canLayAll0, PyData.depth, PyData.depthAll, e]
theorem ne_pos (p q : Nat × Nat) (m : S) : neF (pos p.1 p.2) (pos q.1 q.2) m = .ok (.bl (!decide (p = q))) m := by
  have := eq_pos p q m
  unfold eqF pos at this
  unfold neF pos
  simp only at this ⊢
  rw [this]; rfl
theorem isi_ed (l h : Nat × Nat) (f : List Nat) (m : S) : isiI 4 5 CS SUP [ed l h f, .con (.ref 329)] m = .ok (.bl true) m := by rfl
theorem eqE_ok (l h l2 h2 : Nat × Nat) (f f2 : List Nat) (m : S) : D_Edit___eq__ [ed l h f, ed l2 h2 f2] m = .ok (.bl (decide (l = l2 ∧ h = h2 ∧ f = f2))) m := by
  have i1 := isi_ed l2 h2 f2 m
  have a1 := ne_pos l l2 m
  have a2 := ne_pos h h2 m
  unfold ed at *
  by_cases x1 : l = l2
  · subst x1
    by_cases x2 : h = h2
    · subst x2
      simp at a1 a2
      simp [D_Edit___eq__, F_Edit___eq__, runF, seqS, ifS, setS, retS, exprS, liftS, liftL, nextS, notB, isB, orB, andB, andE, orE, notE, DL.bin, DL.var, cst, callE, callF, callK, pick, consL, nilL, tupE, lstE, raiseS, asgS, gTp, gCn, gNm, gNl, ifE, methE, tyD, elems, items, R.bind_ok, R.bind_err, R.bind_bad, intF, addF, subF, geF, leF, gtF, ltF, lt2F, negE, negF, ixF, slE, someP, noP, slF, lenF, forS, loopS, itE, itT, itF, mthE, mthK, propE, noErr, fldE, fldF, fldAt, insOf, callOE, callOK, cmE, cmK, makeE, makeK, makeB, makeV, setFldS, setFldF, setAt, eqO, neO, kindOf, onlyBl, i1, TT, sne_own_low_own_high, sne_own_low_own_fresh, sne_own_high_own_low, sne_own_high_own_fresh, sne_own_fresh_own_low, sne_own_fresh_own_high, a1, a2, eqF, mk_beq]
    · simp [x2] at a2
      simp at a1
      simp [D_Edit___eq__, F_Edit___eq__, runF, seqS, ifS, setS, retS, exprS, liftS, liftL, nextS, notB, isB, orB, andB, andE, orE, notE, DL.bin, DL.var, cst, callE, callF, callK, pick, consL, nilL, tupE, lstE, raiseS, asgS, gTp, gCn, gNm, gNl, ifE, methE, tyD, elems, items, R.bind_ok, R.bind_err, R.bind_bad, intF, addF, subF, geF, leF, gtF, ltF, lt2F, negE, negF, ixF, slE, someP, noP, slF, lenF, forS, loopS, itE, itT, itF, mthE, mthK, propE, noErr, fldE, fldF, fldAt, insOf, callOE, callOK, cmE, cmK, makeE, makeK, makeB, makeV, setFldS, setFldF, setAt, eqO, neO, kindOf, onlyBl, i1, TT, sne_own_low_own_high, sne_own_low_own_fresh, sne_own_high_own_low, sne_own_high_own_fresh, sne_own_fresh_own_low, sne_own_fresh_own_high, a1, a2, x2]
  · simp [x1] at a1
    simp [D_Edit___eq__, F_Edit___eq__, runF, seqS, ifS, setS, retS, exprS, liftS, liftL, nextS, notB, isB, orB, andB, andE, orE, notE, DL.bin, DL.var, cst, callE, callF, callK, pick, consL, nilL, tupE, lstE, raiseS, asgS, gTp, gCn, gNm, gNl, ifE, methE, tyD, elems, items, R.bind_ok, R.bind_err, R.bind_bad, intF, addF, subF, geF, leF, gtF, ltF, lt2F, negE, negF, ixF, slE, someP, noP, slF, lenF, forS, loopS, itE, itT, itF, mthE, mthK, propE, noErr, fldE, fldF, fldAt, insOf, callOE, callOK, cmE, cmK, makeE, makeK, makeB, makeV, setFldS, setFldF, setAt, eqO, neO, kindOf, onlyBl, i1, TT, sne_own_low_own_high, sne_own_low_own_fresh, sne_own_high_own_low, sne_own_high_own_fresh, sne_own_fresh_own_low, sne_own_fresh_own_high, a1, x1]
theorem eqE_no (l h : Nat × Nat) (f : List Nat) (y : D) (m : S) (i : isiI 4 5 CS SUP [y, .con (.ref 329)] m = .ok (.bl false) m) : D_Edit___eq__ [ed l h f, y] m = .ok (.bl false) m := by
  simp [D_Edit___eq__, F_Edit___eq__, runF, seqS, ifS, setS, retS, exprS, liftS, liftL, nextS, notB, isB, orB, andB, andE, orE, notE, DL.bin, DL.var, cst, callE, callF, callK, pick, consL, nilL, tupE, lstE, raiseS, asgS, gTp, gCn, gNm, gNl, ifE, methE, tyD, elems, items, R.bind_ok, R.bind_err, R.bind_bad, intF, addF, subF, geF, leF, gtF, ltF, lt2F, negE, negF, ixF, slE, someP, noP, slF, lenF, forS, loopS, itE, itT, itF, mthE, mthK, propE, noErr, fldE, fldF, fldAt, insOf, callOE, callOK, cmE, cmK, makeE, makeK, makeB, makeV, setFldS, setFldF, setAt, eqO, neO, kindOf, onlyBl, i]
end L07
end

section
set_option linter.all false
/-! the common beginning of two lists -/
namespace DL
def cf : List Nat → List Nat → Nat
  | a :: r, b :: s => if a = b then cf r s + 1 else 0
  | _, _ => 0
theorem cf_le : ∀ a b : List Nat, cf a b ≤ a.length ∧ cf a b ≤ b.length
  | a :: r, b :: s => by
    unfold cf
    have := cf_le r s
    split <;> simp <;> omega
  | [], b => by simp [cf]
  | a :: r, [] => by simp [cf]
theorem cf_iff : ∀ (k : Nat) (a b : List Nat), k ≤ a.length → k ≤ b.length → (a.take k = b.take k ↔ k ≤ cf a b)
  | 0, a, b, _, _ => by simp
  | k + 1, a :: r, b :: s, h1, h2 => by
    have ih := cf_iff k r s (by simpa using h1) (by simpa using h2)
    unfold cf
    by_cases h : a = b
    · subst h; simp [ih]
    · simp [h]
  | k + 1, [], _, h, _ => by simp at h
  | k + 1, _ :: _, [], _, h => by simp at h
theorem cf_comm : ∀ a b : List Nat, cf a b = cf b a
  | a :: r, b :: s => by
    unfold cf
    by_cases h : a = b
    · subst h; simp [cf_comm r s]
    · simp [h, Ne.symm h]
  | [], b => by cases b <;> simp [cf]
  | a :: r, [] => by simp [cf]
theorem cf_self : ∀ a : List Nat, cf a a = a.length
  | [] => rfl
  | a :: r => by simp [cf, cf_self r]
theorem cf_take : ∀ (i j : Nat) (a b : List Nat), cf (a.take i) (b.take j) = min (cf a b) (min i j)
  | 0, j, a, b => by simp [cf]
  | i + 1, 0, a, b => by cases a <;> simp [cf]
  | i + 1, j + 1, a :: r, b :: s => by
    simp only [List.take_succ_cons, cf, cf_take i j r s]
    split
    · omega
    · simp
  | i + 1, j + 1, [], b => by simp [cf]
  | i + 1, j + 1, a :: r, [] => by simp [cf]
theorem cf_ne : ∀ (a b : List Nat), cf a b < a.length → cf a b < b.length → a[cf a b]? ≠ b[cf a b]?
  | a :: r, b :: s, h1, h2 => by
    unfold cf at h1 h2 ⊢
    by_cases h : a = b
    · subst h
      simp only [if_true, List.length_cons, List.getElem?_cons_succ] at h1 h2 ⊢
      exact cf_ne r s (by omega) (by omega)
    · simp [h]
  | [], _, h, _ => by simp at h
  | _ :: _, [], _, h => by simp at h
/-- the length of the end that is common behind the beginning -/
def cb (a b : List Nat) : Nat := cf (a.drop (cf a b)).reverse (b.drop (cf a b)).reverse
theorem cb_eq (a b : List Nat) : cb a b = min (cf a.reverse b.reverse) (min a.length b.length - cf a b) := by
  unfold cb
  have h : ∀ (x : List Nat) (k : Nat), (x.drop k).reverse = x.reverse.take (x.length - k) := fun x k => by rw [List.reverse_drop]
  rw [h, h, cf_take]
  have := cf_le a b
  omega
theorem end_iff (a b : List Nat) (k : Nat) (h1 : k ≤ a.length) (h2 : k ≤ b.length) : a.drop (a.length - k) = b.drop (b.length - k) ↔ k ≤ cf a.reverse b.reverse := by
  rw [← cf_iff k _ _ (by simpa using h1) (by simpa using h2), List.take_reverse, List.take_reverse]
  exact ⟨fun h => by rw [h], fun h => List.reverse_inj.mp h⟩
theorem cb_comm (a b : List Nat) : cb a b = cb b a := by
  rw [cb_eq, cb_eq, cf_comm a b, cf_comm a.reverse, Nat.min_comm a.length]
/-- the ways that both texts share -/
def way (a b : List Nat) (f k : Nat) : Prop := f + k ≤ min a.length b.length ∧ a.take f = b.take f ∧ a.drop (a.length - k) = b.drop (b.length - k)
theorem way_iff (a b : List Nat) (f k : Nat) : way a b f k ↔ f + k ≤ min a.length b.length ∧ f ≤ cf a b ∧ k ≤ cf a.reverse b.reverse := by
  unfold way
  constructor
  · rintro ⟨h1, h2, h3⟩
    exact ⟨h1, (cf_iff f a b (by omega) (by omega)).mp h2, (end_iff a b k (by omega) (by omega)).mp h3⟩
  · rintro ⟨h1, h2, h3⟩
    exact ⟨h1, (cf_iff f a b (by omega) (by omega)).mpr h2, (end_iff a b k (by omega) (by omega)).mpr h3⟩
theorem way_best (a b : List Nat) : way a b (cf a b) (cb a b) := by
  rw [way_iff, cb_eq]
  have := cf_le a b
  omega
theorem way_most {a b : List Nat} {f k : Nat} (h : way a b f k) : f + k ≤ cf a b + cb a b ∧ f ≤ cf a b := by
  rw [way_iff] at h
  rw [cb_eq]
  have := cf_le a b
  omega
/-- what the change makes -/
theorem made (a b : List Nat) : a.take (cf a b) ++ (b.drop (cf a b)).take (b.length - cb a b - cf a b) ++ a.drop (a.length - cb a b) = b := by
  obtain ⟨h1, h2, h3⟩ := way_best a b
  rw [h2, h3]
  have e : b.take (cf a b) ++ (b.drop (cf a b)).take (b.length - cb a b - cf a b) = b.take (b.length - cb a b) := by
    have : b.length - cb a b = cf a b + (b.length - cb a b - cf a b) := by omega
    rw [this, List.take_add]
    congr 2
    omega
  rw [e, List.take_append_drop]
theorem front_ne (a b : List Nat) (h1 : cf a b + cb a b < a.length) (h2 : cf a b + cb a b < b.length) : a[cf a b]? ≠ b[cf a b]? := cf_ne a b (by omega) (by omega)
theorem back_ne (a b : List Nat) (h1 : cf a b + cb a b < a.length) (h2 : cf a b + cb a b < b.length) : a[a.length - 1 - cb a b]? ≠ b[b.length - 1 - cb a b]? := by
  have k1 := cf_ne (a.drop (cf a b)).reverse (b.drop (cf a b)).reverse
  have e : cf (a.drop (cf a b)).reverse (b.drop (cf a b)).reverse = cb a b := rfl
  rw [e] at k1
  have k2 := k1 (by simp; omega) (by simp; omega)
  rw [List.getElem?_reverse (by simp; omega), List.getElem?_reverse (by simp; omega), List.getElem?_drop, List.getElem?_drop] at k2
  simp only [List.length_drop] at k2
  rw [show cf a b + (a.length - cf a b - 1 - cb a b) = a.length - 1 - cb a b by omega, show cf a b + (b.length - cf a b - 1 - cb a b) = b.length - 1 - cb a b by omega] at k2
  exact k2
theorem idle_iff (a b : List Nat) : (cf a b = a.length - cb a b ∧ (b.drop (cf a b)).take (b.length - cb a b - cf a b) = []) ↔ a = b := by
  have wb := (way_best a b).1
  constructor
  · rintro ⟨h1, h2⟩
    have m := made a b
    rw [h2, ← h1] at m
    simpa using m
  · rintro rfl
    have : cf a a = a.length := cf_self a
    have c0 : cb a a = 0 := by omega
    simp [this, c0]
end DL
end

section
open PySem DL
set_option linter.all false
set_option Elab.async false
set_option maxRecDepth 100000
set_option maxHeartbeats 4000000
namespace DL
theorem sm_app {n : Nat} {b : Int} {m : S} {ob : Ob} (h : Sm n b m) (c : clOb m.length ob = true) : Sm n b (m ++ [ob]) := by
  obtain ⟨w, a, c0, r, e, h1, h2⟩ := id h
  exact ⟨wf_app w c, a, c0, r, by rw [List.getElem?_append_left h.lt]; exact e, h1, h2⟩
theorem sm_set2 {n k : Nat} {b : Int} {m : S} {ob : Ob} (h : Sm n b m) (c : clOb m.length ob = true) (hk : k ≠ n) : Sm n b (m.set k ob) := by
  obtain ⟨w, a, c0, r, e, h1, h2⟩ := id h
  exact ⟨wf_set w c, a, c0, r, by rw [List.getElem?_set_ne hk]; exact e, h1, h2⟩
end DL
namespace DL
theorem clo (n : Nat) (ds : List D) (k : Nat) (h : okDs k ds = true) : clOb n (.lst ds) = true := okDs_cl n k ds h
end DL
namespace L07
theorem law_place_ok (t : List Nat) (h : t.length ≤ 1000) (k : Nat) (hk : k ≤ t.length) (m : S) : D__law_place [.str (mk t), .int k] m = .ok (pos (shape 10 (t.take k)).1 (shape 10 (t.take k)).2) m := by
  have hc : t.length ≤ cap := by unfold cap; omega
  have hc2 : (t.take k).length ≤ cap := by rw [List.length_take]; omega
  have e1 : Txt.count (mk (t.take k)) (mk [10]) = ((shape 10 (t.take k)).1 : Int) := by rw [shape_count]; exact count_eq _ 10
  have e2 : Txt.rfind (mk (t.take k)) (mk [10]) = ((mk (t.take k)).length : Int) - 1 - ((shape 10 (t.take k)).2 : Int) := rfind_eq _ 10
  have e3 : ((mk (t.take k)).length : Int) - 1 - (((mk (t.take k)).length : Int) - 1 - ((shape 10 (t.take k)).2 : Int)) = ((shape 10 (t.take k)).2 : Int) := by omega
  rw [mk_length] at e2 e3
  rw [List.length_take] at e2 e3 hc2
  simp [D__law_place, F__law_place, runF, seqS, ifS, setS, retS, exprS, liftS, liftL, nextS, notB, isB, orB, andB, andE, orE, notE, DL.bin, DL.var, cst, callE, callF, callK, pick, consL, nilL, tupE, lstE, raiseS, asgS, gTp, gCn, gNm, gNl, ifE, methE, tyD, elems, items, R.bind_ok, R.bind_err, R.bind_bad, intF, addF, subF, geF, leF, gtF, ltF, lt2F, negE, negF, ixF, slE, someP, noP, slF, lenF, forS, loopS, itE, itT, itF, mthE, mthK, propE, noErr, fldE, fldF, fldAt, insOf, callOE, callOK, cmE, cmK, makeE, makeK, makeB, makeV, setFldS, setFldF, setAt, eqO, neO, kindOf, onlyBl, hc, cut_pre t k hk, nl_str, countF, rfindF, e1, e2, pos, hc2, e3]
def wrongs : List D := [.non, .int 5, .bl true, .lst [.str "a"], .dic [] []]
theorem wrong_no (o : D) (h : o ∈ wrongs) : ∀ m, D_need_text [o] m = .err 1 [.non] m := by
  intro m
  simp only [wrongs, List.mem_cons, List.not_mem_nil, or_false] at h
  rcases h with rfl | rfl | rfl | rfl | rfl <;> rfl
theorem ltP_step (c : Nat) (s : Nat × Nat) (a : Nat) : ltP s (stepC c s a) := by
  unfold ltP stepC
  split <;> simp
theorem ltP_trans {p q r : Nat × Nat} (h1 : ltP p q) (h2 : ltP q r) : ltP p r := by
  unfold ltP at *
  omega
theorem fold_lt (c : Nat) : ∀ (l : List Nat) (s : Nat × Nat), l ≠ [] → ltP s (l.foldl (stepC c) s)
  | [], _, h => absurd rfl h
  | [a], s, _ => ltP_step c s a
  | a :: b :: l, s, _ => ltP_trans (ltP_step c s a) (fold_lt c (b :: l) (stepC c s a) (by simp))
theorem shape_lt (t : List Nat) (a c : Nat) (h : a < c) (hc : c ≤ t.length) : ltP (shape 10 (t.take a)) (shape 10 (t.take c)) := by
  have : t.take c = t.take a ++ (t.drop a).take (c - a) := by
    rw [← List.take_append_drop a (t.take c), List.take_take, Nat.min_eq_left (by omega), List.drop_take]
  rw [this]
  unfold shape
  rw [List.foldl_append]
  refine fold_lt 10 _ _ fun z => ?_
  have := congrArg List.length z
  simp at this; omega
theorem ltP_asymm {p q : Nat × Nat} (h : ltP p q) : ¬ ltP q p := by unfold ltP at *; omega
theorem ltP_irrefl (p : Nat × Nat) : ¬ ltP p p := by unfold ltP; omega
theorem shape_le_mono (t : List Nat) (a c : Nat) (h : a ≤ c) (hc : c ≤ t.length) : ¬ ltP (shape 10 (t.take c)) (shape 10 (t.take a)) := by
  rcases Nat.lt_or_eq_of_le h with h | h
  · exact ltP_asymm (shape_lt t a c h hc)
  · rw [h]; exact ltP_irrefl _
theorem min_ok (i j : Nat) (m : S) : minF [.int i, .int j] m = .ok (.int ((min i j : Nat) : Int)) m := by
  unfold minF
  simp only
  congr 2
  split <;> omega
theorem max_ok (i j : Nat) (m : S) : maxF [.int i, .int j] m = .ok (.int ((max i j : Nat) : Int)) m := by
  unfold maxF
  simp only
  congr 2
  split <;> omega
theorem ixP_wide (t : List Nat) (r c : Nat) (h : t.length < c) : ixP t r c = -1 := by
  unfold ixP
  cases e : (parts 10 t)[r]? with
  | none => rfl
  | some p => exact if_neg (by have := (parts_small t).2 p (List.mem_of_getElem? e); omega)
theorem ixP_deep (t : List Nat) (r c : Nat) (h : t.length < r) : ixP t r c = -1 := by
  unfold ixP
  rw [List.getElem?_eq_none (by have := (parts_small t).1; omega)]
theorem shape1_le (t : List Nat) (k : Nat) : (shape 10 (t.take k)).1 ≤ t.length := by
  rw [shape_count]
  exact Nat.le_trans List.count_le_length (by simp; omega)
theorem ixP_shape (t : List Nat) (k : Nat) (hk : k ≤ t.length) : ixP t (shape 10 (t.take k)).1 (shape 10 (t.take k)).2 = (k : Int) := by
  obtain ⟨⟨p, e1, e2⟩, e3⟩ := parts_idx 10 t k hk
  unfold ixP
  rw [e1]
  simp only [if_pos e2, e3]
theorem ne_str (x : Str) (m : S) : neF (.str x) (.str x) m = .ok (.bl false) m := by simp [neF]
theorem rng_ok (n : Nat) (h : n ≤ 10000) (f : EL) (μ : Env') (m : S) (e : f μ m = .ok [.int n] m) : rngF f μ m = .ok (rngD n) m := by
  unfold rngF
  rw [e, R.bind_ok]
  refine if_pos ?_
  have h2 : (10000 : Int) < 2 ^ 62 := by decide
  generalize (2 : Int) ^ 62 = z at h2 ⊢
  omega
theorem rng_mem {n : Nat} {x : D} (h : x ∈ rngD n) : ∃ k : Nat, x = .int k ∧ k < n := by
  obtain ⟨k, hk, rfl⟩ := List.mem_map.mp h
  exact ⟨k, rfl, by simpa using hk⟩

theorem max_drop : True := trivial
end L07
end

section
open PySem DL
set_option linter.all false
set_option Elab.async false
set_option maxRecDepth 100000
set_option maxHeartbeats 8000000
namespace L07
theorem cut_suf (t : List Nat) (j : Nat) (h : j ≤ t.length) : L2.cutS (mk t) (some (j : Int)) none = mk (t.drop j) := by
  unfold L2.cutS
  rw [HT.sIx_nat, HT.sIx_none, mk_length, Nat.min_eq_left h]
  show mk ((t.drop j).take (t.length - j)) = _
  rw [List.take_of_length_le (by simp)]
theorem ed_def (l h : Nat × Nat) (f : List Nat) : ed l h f = .obj 4 [pos l.1 l.2, pos h.1 h.2, .str (mk f)] := rfl
theorem eo_ed (l h l2 h2 : Nat × Nat) (f f2 : List Nat) (m : S) : eqO TT disp___eq__ (oksB [4] EQT) (ed l h f) (ed l2 h2 f2) m = .ok (.bl (decide (l = l2 ∧ h = h2 ∧ f = f2))) m := by
  have := eqE_ok l h l2 h2 f f2 m
  unfold ed at *
  have k : oksB [4] EQT 4 (.ref 329) = true := by decide +kernel
  simp [eqO, insOf, kindOf, disp___eq__, this, onlyBl, TT, k]
theorem no_ed (l h l2 h2 : Nat × Nat) (f f2 : List Nat) (m : S) : neO TT disp___eq__ (oksB [4] EQT) (ed l h f) (ed l2 h2 f2) m = .ok (.bl (!decide (l = l2 ∧ h = h2 ∧ f = f2))) m := by
  have := eqE_ok l h l2 h2 f f2 m
  unfold ed at *
  have k : oksB [4] EQT 4 (.ref 329) = true := by decide +kernel
  simp [neO, insOf, kindOf, disp___eq__, this, onlyBl, TT, k]
def prs (a b : List Nat) : List D := List.zipWith (fun x y => D.tup [.str (mk [x]), .str (mk [y])]) a b
theorem prs_eq (a b : List Nat) : pairsD (mk a) (mk b) = prs a b := by
  unfold pairsD chars prs
  simp only [cps_mk]
  induction a generalizing b with
  | nil => simp
  | cons x a ih =>
    cases b with
    | nil => simp
    | cons y b => simp only [List.map_cons, List.zipWith_cons_cons, ih]; rfl
theorem ne_one (x y : Nat) (m : S) : neF (.str (mk [x])) (.str (mk [y])) m = .ok (.bl (!decide (x = y))) m := by
  simp [neF, mk_beq]
theorem front_loop (U : ST) (s0 s1 : Option D) : ∀ (a b : List Nat) (n : Nat) (x2 x3 x4 : Option D) (m : S),
    (cf a b < min a.length b.length → ∃ y3 y4, loopE (gTp 2 (gCn (gNm 2) (gCn (gTp 2 (gCn (gNm 3) (gCn (gNm 4) gNl))) gNl))) B_common_front_1 U (enumG n (prs a b)) [s0, s1, x2, x3, x4] m = .nx [s0, s1, some (.int ((n + cf a b : Nat) : Int)), y3, y4] m) ∧
    (cf a b = min a.length b.length → ∃ y2 y3 y4, loopE (gTp 2 (gCn (gNm 2) (gCn (gTp 2 (gCn (gNm 3) (gCn (gNm 4) gNl))) gNl))) B_common_front_1 U (enumG n (prs a b)) [s0, s1, x2, x3, x4] m = U [s0, s1, y2, y3, y4] m)
  | [], b, n, x2, x3, x4, m => ⟨fun h => by simp at h, fun _ => ⟨x2, x3, x4, by simp [prs, enumG, loopE]⟩⟩
  | x :: a, [], n, x2, x3, x4, m => ⟨fun h => by simp at h, fun _ => ⟨x2, x3, x4, by simp [prs, enumG, loopE]⟩⟩
  | x :: a, y :: b, n, x2, x3, x4, m => by
    have e : enumG n (prs (x :: a) (y :: b)) = .tup [.int n, .tup [.str (mk [x]), .str (mk [y])]] :: enumG (n + 1) (prs a b) := rfl
    have g : gTp 2 (gCn (gNm 2) (gCn (gTp 2 (gCn (gNm 3) (gCn (gNm 4) gNl))) gNl)) (.tup [.int n, .tup [.str (mk [x]), .str (mk [y])]]) [s0, s1, x2, x3, x4] = some [s0, s1, some (.int n), some (.str (mk [x])), some (.str (mk [y]))] := rfl
    by_cases h : x = y
    · subst h
      have q : B_common_front_1 [s0, s1, some (.int n), some (.str (mk [x])), some (.str (mk [x]))] m = .nx [s0, s1, some (.int n), some (.str (mk [x])), some (.str (mk [x]))] m := by
        simp [B_common_front_1, runF, seqS, ifS, setS, retS, exprS, liftS, liftL, nextS, notB, isB, orB, andB, andE, orE, notE, DL.bin, DL.var, cst, callE, callF, callK, pick, consL, nilL, tupE, lstE, raiseS, asgS, gTp, gCn, gNm, gNl, ifE, methE, tyD, elems, items, R.bind_ok, R.bind_err, R.bind_bad, intF, addF, subF, geF, leF, gtF, ltF, lt2F, negE, negF, ixF, slE, someP, noP, slF, lenF, forS, loopS, itE, itT, itF, mthE, mthK, propE, noErr, fldE, fldF, fldAt, insOf, callOE, callOK, cmE, cmK, makeE, makeK, makeB, makeV, setFldS, setFldF, setAt, eqO, neO, kindOf, onlyBl, ne_one]
      obtain ⟨i1, i2⟩ := front_loop U s0 s1 a b (n + 1) (some (.int n)) (some (.str (mk [x]))) (some (.str (mk [x]))) m
      have c : cf (x :: a) (x :: b) = cf a b + 1 := by simp [cf]
      rw [c, e]
      unfold loopE
      rw [g]
      simp only [q]
      refine ⟨fun hh => ?_, fun hh => ?_⟩
      · obtain ⟨z3, z4, r⟩ := i1 (by simp at hh; omega)
        refine ⟨z3, z4, ?_⟩
        rw [r, show n + (cf a b + 1) = n + 1 + cf a b by omega]
      · exact i2 (by simp at hh; omega)
    · have q : B_common_front_1 [s0, s1, some (.int n), some (.str (mk [x])), some (.str (mk [y]))] m = .bk [s0, s1, some (.int n), some (.str (mk [x])), some (.str (mk [y]))] m := by
        simp [B_common_front_1, runF, seqS, ifS, setS, retS, exprS, liftS, liftL, nextS, notB, isB, orB, andB, andE, orE, notE, DL.bin, DL.var, cst, callE, callF, callK, pick, consL, nilL, tupE, lstE, raiseS, asgS, gTp, gCn, gNm, gNl, ifE, methE, tyD, elems, items, R.bind_ok, R.bind_err, R.bind_bad, intF, addF, subF, geF, leF, gtF, ltF, lt2F, negE, negF, ixF, slE, someP, noP, slF, lenF, forS, loopS, itE, itT, itF, mthE, mthK, propE, noErr, fldE, fldF, fldAt, insOf, callOE, callOK, cmE, cmK, makeE, makeK, makeB, makeV, setFldS, setFldF, setAt, eqO, neO, kindOf, onlyBl, ne_one, h, breakS]
      have c : cf (x :: a) (y :: b) = 0 := by simp [cf, h]
      rw [c, e]
      unfold loopE
      rw [g]
      simp only [q]
      refine ⟨fun _ => ⟨_, _, rfl⟩, fun hh => ?_⟩
      simp at hh
theorem front_ok (a b : List Nat) (ha : a.length ≤ 1000) (hb : b.length ≤ 1000) (m : S) : D_common_front [.str (mk a), .str (mk b)] m = .ok (.int (cf a b)) m := by
  have le := cf_le a b
  have la : a.length ≤ cap := by unfold cap; omega
  have lb : b.length ≤ cap := by unfold cap; omega
  have hz : enumZF (consL (DL.var 0) (consL (DL.var 1) nilL)) [some (.str (mk a)), some (.str (mk b)), none, none, none] m = .ok (enumG 0 (prs a b)) m := by
    simp [enumZF, runF, seqS, ifS, setS, retS, exprS, liftS, liftL, nextS, notB, isB, orB, andB, andE, orE, notE, DL.bin, DL.var, cst, callE, callF, callK, pick, consL, nilL, tupE, lstE, raiseS, asgS, gTp, gCn, gNm, gNl, ifE, methE, tyD, elems, items, R.bind_ok, R.bind_err, R.bind_bad, intF, addF, subF, geF, leF, gtF, ltF, lt2F, negE, negF, ixF, slE, someP, noP, slF, lenF, forS, loopS, itE, itT, itF, mthE, mthK, propE, noErr, fldE, fldF, fldAt, insOf, callOE, callOK, cmE, cmK, makeE, makeK, makeB, makeV, setFldS, setFldF, setAt, eqO, neO, kindOf, onlyBl, prs_eq]
  obtain ⟨i1, i2⟩ := front_loop (retS (callE minF (consL (callE lenF (consL (DL.var 0) nilL)) (consL (callE lenF (consL (DL.var 1) nilL)) nilL)))) (some (.str (mk a))) (some (.str (mk b))) a b 0 none none none m
  refine runF_ret ?_
  show F_common_front [some (.str (mk a)), some (.str (mk b)), none, none, none] m = _
  unfold F_common_front
  have hf : ∀ (u : ST), forE (enumZF (consL (DL.var 0) (consL (DL.var 1) nilL))) (gTp 2 (gCn (gNm 2) (gCn (gTp 2 (gCn (gNm 3) (gCn (gNm 4) gNl))) gNl))) B_common_front_1 u [some (.str (mk a)), some (.str (mk b)), none, none, none] m = loopE (gTp 2 (gCn (gNm 2) (gCn (gTp 2 (gCn (gNm 3) (gCn (gNm 4) gNl))) gNl))) B_common_front_1 u (enumG 0 (prs a b)) [some (.str (mk a)), some (.str (mk b)), none, none, none] m := fun u => by
    unfold forE liftL; rw [hz]
  by_cases h : cf a b < min a.length b.length
  · obtain ⟨x3, x4, r⟩ := i1 h
    refine (seqS_nx ((hf _).trans r)).trans ?_
    simp [runF, seqS, ifS, setS, retS, exprS, liftS, liftL, nextS, notB, isB, orB, andB, andE, orE, notE, DL.bin, DL.var, cst, callE, callF, callK, pick, consL, nilL, tupE, lstE, raiseS, asgS, gTp, gCn, gNm, gNl, ifE, methE, tyD, elems, items, R.bind_ok, R.bind_err, R.bind_bad, intF, addF, subF, geF, leF, gtF, ltF, lt2F, negE, negF, ixF, slE, someP, noP, slF, lenF, forS, loopS, itE, itT, itF, mthE, mthK, propE, noErr, fldE, fldF, fldAt, insOf, callOE, callOK, cmE, cmK, makeE, makeK, makeB, makeV, setFldS, setFldF, setAt, eqO, neO, kindOf, onlyBl]
  · obtain ⟨x2, x3, x4, r⟩ := i2 (by omega)
    have mi := min_ok a.length b.length m
    refine (seqS_ret (m1 := m) (d := .int (cf a b)) (((hf _).trans r).trans ?_))
    have e : (min (a.length : Int) (b.length : Int)) = ((cf a b : Nat) : Int) := by omega
    simp [runF, seqS, ifS, setS, retS, exprS, liftS, liftL, nextS, notB, isB, orB, andB, andE, orE, notE, DL.bin, DL.var, cst, callE, callF, callK, pick, consL, nilL, tupE, lstE, raiseS, asgS, gTp, gCn, gNm, gNl, ifE, methE, tyD, elems, items, R.bind_ok, R.bind_err, R.bind_bad, intF, addF, subF, geF, leF, gtF, ltF, lt2F, negE, negF, ixF, slE, someP, noP, slF, lenF, forS, loopS, itE, itT, itF, mthE, mthK, propE, noErr, fldE, fldF, fldAt, insOf, callOE, callOK, cmE, cmK, makeE, makeK, makeB, makeV, setFldS, setFldF, setAt, eqO, neO, kindOf, onlyBl, la, lb, minF, e]
    try omega
theorem place_ok (t : List Nat) (h : t.length ≤ 1000) (k : Nat) (hk : k ≤ t.length) (m : S) : D_place_of [.str (mk t), .int k] m = .ok (pos (shape 10 (t.take k)).1 (shape 10 (t.take k)).2) m := by
  have lt : t.length ≤ cap := by unfold cap; omega
  have s := shape_of_ok (t.take k) (by simp; omega) m
  have n1 : ¬ (t.length < k) := by omega
  simp [D_place_of, F_place_of, runF, seqS, ifS, setS, retS, exprS, liftS, liftL, nextS, notB, isB, orB, andB, andE, orE, notE, DL.bin, DL.var, cst, callE, callF, callK, pick, consL, nilL, tupE, lstE, raiseS, asgS, gTp, gCn, gNm, gNl, ifE, methE, tyD, elems, items, R.bind_ok, R.bind_err, R.bind_bad, intF, addF, subF, geF, leF, gtF, ltF, lt2F, negE, negF, ixF, slE, someP, noP, slF, lenF, forS, loopS, itE, itT, itF, mthE, mthK, propE, noErr, fldE, fldF, fldAt, insOf, callOE, callOK, cmE, cmK, makeE, makeK, makeB, makeV, setFldS, setFldF, setAt, eqO, neO, kindOf, onlyBl, text_ok, nat_ok, lt, n1, cut_pre t k hk, s]
theorem rev_ok (t : List Nat) (h : t.length ≤ 1000) (m : S) : revF (.str (mk t)) m = .ok (.str (mk t.reverse)) m := by
  have lt : t.length ≤ cap := by unfold cap; omega
  unfold revF
  simp only
  rw [if_pos (by rw [mk_length]; exact lt)]
  rfl
/-- the change from one text to another -/
def chg (a b : List Nat) : D := ed (shape 10 (a.take (cf a b))) (shape 10 (a.take (a.length - cb a b))) ((b.drop (cf a b)).take (b.length - cb a b - cf a b))
theorem between_ok (a b : List Nat) (ha : a.length ≤ 100) (hb : b.length ≤ 100) (m : S) (wf : Wf m) : D_Edit_between [.con (.ref 329), .str (mk a), .str (mk b)] m = .ok (chg a b) m := by
  have wb := (way_best a b).1
  have la : a.length ≤ cap := by unfold cap; omega
  have lb : b.length ≤ cap := by unfold cap; omega
  have f1 := front_ok a b (by omega) (by omega) m
  have f2 := front_ok (a.drop (cf a b)).reverse (b.drop (cf a b)).reverse (by simp; omega) (by simp; omega) m
  have r1 := rev_ok (a.drop (cf a b)) (by simp; omega) m
  have r2 := rev_ok (b.drop (cf a b)) (by simp; omega) m
  have c1 := cut_suf a (cf a b) (by omega)
  have c2 := cut_suf b (cf a b) (by omega)
  have c3 := cut_mid b (cf a b) (b.length - cb a b) (by omega) (by omega)
  have e1 : ((a.length : Int) - (cb a b : Int)) = ((a.length - cb a b : Nat) : Int) := by omega
  have e2 : ((b.length : Int) - (cb a b : Int)) = ((b.length - cb a b : Nat) : Int) := by omega
  have p1 := place_ok a (by omega) (cf a b) (by omega) m
  have p2 := place_ok a (by omega) (a.length - cb a b) (by omega) m
  have nl := shape_le_mono a (cf a b) (a.length - cb a b) (by omega) (by omega)
  have g := ed_ok (shape 10 (a.take (cf a b))) (shape 10 (a.take (a.length - cb a b))) ((b.drop (cf a b)).take (b.length - cb a b - cf a b)) nl m wf
  have cbd : cf (a.drop (cf a b)).reverse (b.drop (cf a b)).reverse = cb a b := rfl
  rw [cbd] at f2
  simp [D_Edit_between, F_Edit_between, runF, seqS, ifS, setS, retS, exprS, liftS, liftL, nextS, notB, isB, orB, andB, andE, orE, notE, DL.bin, DL.var, cst, callE, callF, callK, pick, consL, nilL, tupE, lstE, raiseS, asgS, gTp, gCn, gNm, gNl, ifE, methE, tyD, elems, items, R.bind_ok, R.bind_err, R.bind_bad, intF, addF, subF, geF, leF, gtF, ltF, lt2F, negE, negF, ixF, slE, someP, noP, slF, lenF, forS, loopS, itE, itT, itF, mthE, mthK, propE, noErr, fldE, fldF, fldAt, insOf, callOE, callOK, cmE, cmK, makeE, makeK, makeB, makeV, setFldS, setFldF, setAt, eqO, neO, kindOf, onlyBl, parS, text_ok, f1, f2, revE, r1, r2, c1, c2, la, lb, e1, e2, p1, p2, c3, g, chg]
end L07
end

section
open PySem DL
set_option linter.all false
set_option Elab.async false
namespace DL
/-- a comprehension with a test, all of it pure -/
theorem lcLoop_filt {m : S} {g : GD} {tt : EB} {te : E1} {μ : Env'} {p : D → Bool} {h : D → D} : ∀ (ds acc : List D), (∀ x ∈ ds, ∃ μx, g x μ = some μx ∧ ∀ m', tt μx m' = .ok (p x) m' ∧ (p x = true → te μx m' = .ok (h x) m')) → acc.length + ds.length ≤ cap →
    lcLoop m.length g tt te μ ds (m ++ [.lst acc]) = some (m ++ [.lst (acc ++ (ds.filter p).map h)])
  | [], acc, _, _ => by simp [lcLoop]
  | x :: ds, acc, hx, hc => by
    obtain ⟨μx, e1, e2⟩ := hx x (List.mem_cons_self ..)
    simp only [List.length_cons] at hc
    unfold lcLoop
    rw [e1]
    simp only
    obtain ⟨e3, e4⟩ := e2 (m ++ [.lst acc])
    rw [e3]
    cases q : p x with
    | false =>
      simp only
      rw [lcLoop_filt ds acc (fun y hy => hx y (List.mem_cons_of_mem _ hy)) (by omega)]
      simp [q]
    | true =>
      simp only
      rw [e4 q]
      have hl : (m ++ [Ob.lst acc])[m.length]? = some (.lst acc) := by simp
      simp only [hl]
      rw [if_pos (by omega)]
      have hs : (m ++ [Ob.lst acc]).set m.length (.lst (acc ++ [h x])) = m ++ [.lst (acc ++ [h x])] := by simp
      rw [hs, lcLoop_filt ds (acc ++ [h x]) (fun y hy => hx y (List.mem_cons_of_mem _ hy)) (by simp; omega)]
      simp [q]
theorem lcE_filt {vs : List Nat} {f : EL} {g : GD} {tt : EB} {te : E1} {μ : Env'} {p : D → Bool} {h : D → D} {m : S} {ds : List D} (hf : f μ m = .ok ds m) (hx : ∀ x ∈ ds, ∃ μx, g x (wipeD μ vs) = some μx ∧ ∀ m', tt μx m' = .ok (p x) m' ∧ (p x = true → te μx m' = .ok (h x) m')) (hc : ds.length ≤ cap)
    (wf : Wf m) (cl : cls m.length ((ds.filter p).map h) = true) : lcE vs f g tt te μ m = .ok (.lst ((ds.filter p).map h)) m := by
  have e := lcLoop_filt (m := m) (g := g) (tt := tt) (te := te) (μ := wipeD μ vs) ds [] hx (by simpa using hc)
  unfold lcE
  rw [hf]
  simp only [R.bind_ok]
  rw [e]
  unfold Wf at wf
  simp [takeL, cl, wf]
end DL
end

section
open PySem DL
set_option linter.all false
set_option Elab.async false
set_option maxRecDepth 100000
set_option maxHeartbeats 8000000
namespace L07
instance (a b : List Nat) (f k : Nat) : Decidable (way a b f k) := by unfold way; infer_instance
/-- the ways with a front -/
def wl (a b : List Nat) (f : Nat) (ks : List Nat) : List (Int × Int) := (ks.filter fun k => decide (way a b f k)).map fun (k : Nat) => ((f : Int), (k : Int))
theorem eq_strM (a b : List Nat) (m : S) : eqF (.str (mk a)) (.str (mk b)) m = .ok (.bl (decide (a = b))) m := by simp [eqF, mk_beq]
theorem ways_in (a b : List Nat) (ha : a.length ≤ 100) (hb : b.length ≤ 100) (f : Nat) (hf : f ≤ min a.length b.length) (m : S) : ∀ (ks : List Nat) (acc : List (Int × Int)) (x4 : Option D), (∀ k ∈ ks, f + k ≤ min a.length b.length) → acc.length + ks.length ≤ cap →
    ∃ y4, loopS (gNm 4) B__law_ways_1 (ks.map fun (k : Nat) => D.int k) [some (.str (mk a)), some (.str (mk b)), some (.ref m.length), some (.int f), x4] (m ++ [.lst (acc.map tP)]) =
      .nx [some (.str (mk a)), some (.str (mk b)), some (.ref m.length), some (.int f), y4] (m ++ [.lst ((acc ++ wl a b f ks).map tP)])
  | [], acc, x4, _, _ => ⟨x4, by simp [wl, loopS]⟩
  | k :: ks, acc, x4, hk, hc => by
    have hk0 := hk k (List.mem_cons_self ..)
    have la : a.length ≤ cap := by unfold cap; omega
    have lb : b.length ≤ cap := by unfold cap; omega
    have ca : acc.length ≤ cap := by omega
    have c1 := cut_pre a f (by omega)
    have c2 := cut_pre b f (by omega)
    have c3 := cut_suf a (a.length - k) (by omega)
    have c4 := cut_suf b (b.length - k) (by omega)
    have e1 : ((a.length : Int) - (k : Int)) = ((a.length - k : Nat) : Int) := by omega
    have e2 : ((b.length : Int) - (k : Int)) = ((b.length - k : Nat) : Int) := by omega
    have g : gNm 4 (.int k) [some (.str (mk a)), some (.str (mk b)), some (.ref m.length), some (.int f), x4] = some [some (.str (mk a)), some (.str (mk b)), some (.ref m.length), some (.int f), some (.int k)] := rfl
    have hl : (m ++ [Ob.lst (acc.map tP)])[m.length]? = some (.lst (acc.map tP)) := by simp
    have hs : ∀ z, (m ++ [Ob.lst (acc.map tP)]).set m.length z = m ++ [z] := fun z => by simp
    have q : B__law_ways_1 [some (.str (mk a)), some (.str (mk b)), some (.ref m.length), some (.int f), some (.int k)] (m ++ [.lst (acc.map tP)]) = .nx [some (.str (mk a)), some (.str (mk b)), some (.ref m.length), some (.int f), some (.int k)] (m ++ [.lst ((acc ++ wl a b f [k]).map tP)]) := by
      by_cases h1 : a.take f = b.take f
      · by_cases h2 : a.drop (a.length - k) = b.drop (b.length - k)
        · have w : way a b f k := ⟨by omega, h1, h2⟩
          simp [B__law_ways_1, runF, seqS, ifS, setS, retS, exprS, liftS, liftL, nextS, notB, isB, orB, andB, andE, orE, notE, DL.bin, DL.var, cst, callE, callF, callK, pick, consL, nilL, tupE, lstE, raiseS, asgS, gTp, gCn, gNm, gNl, ifE, methE, tyD, elems, items, R.bind_ok, R.bind_err, R.bind_bad, intF, addF, subF, geF, leF, gtF, ltF, lt2F, negE, negF, ixF, slE, someP, noP, slF, lenF, forS, loopS, itE, itT, itF, mthE, mthK, propE, noErr, fldE, fldF, fldAt, insOf, callOE, callOK, cmE, cmK, makeE, makeK, makeB, makeV, setFldS, setFldF, setAt, eqO, neO, kindOf, onlyBl, la, lb, c1, c2, c3, c4, e1, e2, eq_strM, h1, h2, appendF, hl, hs, ca, wl, w, tP]
        · have w : ¬ way a b f k := fun w => h2 w.2.2
          simp [B__law_ways_1, runF, seqS, ifS, setS, retS, exprS, liftS, liftL, nextS, notB, isB, orB, andB, andE, orE, notE, DL.bin, DL.var, cst, callE, callF, callK, pick, consL, nilL, tupE, lstE, raiseS, asgS, gTp, gCn, gNm, gNl, ifE, methE, tyD, elems, items, R.bind_ok, R.bind_err, R.bind_bad, intF, addF, subF, geF, leF, gtF, ltF, lt2F, negE, negF, ixF, slE, someP, noP, slF, lenF, forS, loopS, itE, itT, itF, mthE, mthK, propE, noErr, fldE, fldF, fldAt, insOf, callOE, callOK, cmE, cmK, makeE, makeK, makeB, makeV, setFldS, setFldF, setAt, eqO, neO, kindOf, onlyBl, la, lb, c1, c2, c3, c4, e1, e2, eq_strM, h1, h2, wl, w]
      · have w : ¬ way a b f k := fun w => h1 w.2.1
        simp [B__law_ways_1, runF, seqS, ifS, setS, retS, exprS, liftS, liftL, nextS, notB, isB, orB, andB, andE, orE, notE, DL.bin, DL.var, cst, callE, callF, callK, pick, consL, nilL, tupE, lstE, raiseS, asgS, gTp, gCn, gNm, gNl, ifE, methE, tyD, elems, items, R.bind_ok, R.bind_err, R.bind_bad, intF, addF, subF, geF, leF, gtF, ltF, lt2F, negE, negF, ixF, slE, someP, noP, slF, lenF, forS, loopS, itE, itT, itF, mthE, mthK, propE, noErr, fldE, fldF, fldAt, insOf, callOE, callOK, cmE, cmK, makeE, makeK, makeB, makeV, setFldS, setFldF, setAt, eqO, neO, kindOf, onlyBl, la, lb, c1, c2, c3, c4, e1, e2, eq_strM, h1, wl, w]
    have lw : (wl a b f [k]).length ≤ 1 := by unfold wl; rw [List.length_map]; exact Nat.le_trans (List.length_filter_le ..) (by simp)
    obtain ⟨y4, r⟩ := ways_in a b ha hb f hf m ks (acc ++ wl a b f [k]) (some (.int k)) (fun j hj => hk j (List.mem_cons_of_mem _ hj)) (by simp at hc ⊢; omega)
    refine ⟨y4, ?_⟩
    rw [List.map_cons]
    unfold loopS
    rw [g]
    simp only [q]
    rw [r]
    have : wl a b f (k :: ks) = wl a b f [k] ++ wl a b f ks := by unfold wl; rw [← List.map_append, ← List.filter_append]; rfl
    rw [this, List.append_assoc]
def wls (a b : List Nat) (fs : List Nat) : List (Int × Int) := fs.flatMap fun f => wl a b f (List.range (min a.length b.length - f + 1))
theorem wl_len (a b : List Nat) (f : Nat) (ks : List Nat) : (wl a b f ks).length ≤ ks.length := by unfold wl; rw [List.length_map]; exact List.length_filter_le ..
theorem ways_out (a b : List Nat) (ha : a.length ≤ 100) (hb : b.length ≤ 100) (m : S) : ∀ (fs : List Nat) (acc : List (Int × Int)) (x3 x4 : Option D), (∀ f ∈ fs, f ≤ min a.length b.length) → acc.length + 101 * fs.length ≤ 50000 →
    ∃ y3 y4, loopS (gNm 3) B__law_ways_2 (fs.map fun (k : Nat) => D.int k) [some (.str (mk a)), some (.str (mk b)), some (.ref m.length), x3, x4] (m ++ [.lst (acc.map tP)]) =
      .nx [some (.str (mk a)), some (.str (mk b)), some (.ref m.length), y3, y4] (m ++ [.lst ((acc ++ wls a b fs).map tP)])
  | [], acc, x3, x4, _, _ => ⟨x3, x4, by simp [wls, loopS]⟩
  | f :: fs, acc, x3, x4, hk, hc => by
    have hf := hk f (List.mem_cons_self ..)
    have la : a.length ≤ cap := by unfold cap; omega
    have lb : b.length ≤ cap := by unfold cap; omega
    have g : gNm 3 (.int f) [some (.str (mk a)), some (.str (mk b)), some (.ref m.length), x3, x4] = some [some (.str (mk a)), some (.str (mk b)), some (.ref m.length), some (.int f), x4] := rfl
    have e1 : (min (a.length : Int) (b.length : Int) - (f : Int) + 1) = ((min a.length b.length - f + 1 : Nat) : Int) := by omega
    have mi : ∀ m : S, minF [.int a.length, .int b.length] m = .ok (.int (min (a.length : Int) (b.length : Int))) m := fun m => by
      unfold minF; simp only; congr 2; split <;> omega
    have rg := rng_ok (min a.length b.length - f + 1) (by omega) (consL (DL.bin addF (DL.bin subF (callE minF (consL (callE lenF (consL (DL.var 0) nilL)) (consL (callE lenF (consL (DL.var 1) nilL)) nilL))) (DL.var 3)) (cst (.int 1))) nilL) [some (.str (mk a)), some (.str (mk b)), some (.ref m.length), some (.int f), x4] (m ++ [.lst (acc.map tP)]) (by
      simp [runF, seqS, ifS, setS, retS, exprS, liftS, liftL, nextS, notB, isB, orB, andB, andE, orE, notE, DL.bin, DL.var, cst, callE, callF, callK, pick, consL, nilL, tupE, lstE, raiseS, asgS, gTp, gCn, gNm, gNl, ifE, methE, tyD, elems, items, R.bind_ok, R.bind_err, R.bind_bad, intF, addF, subF, geF, leF, gtF, ltF, lt2F, negE, negF, ixF, slE, someP, noP, slF, lenF, forS, loopS, itE, itT, itF, mthE, mthK, propE, noErr, fldE, fldF, fldAt, insOf, callOE, callOK, cmE, cmK, makeE, makeK, makeB, makeV, setFldS, setFldF, setAt, eqO, neO, kindOf, onlyBl, la, lb, mi, e1])
    obtain ⟨y4, r⟩ := ways_in a b ha hb f hf m (List.range (min a.length b.length - f + 1)) acc x4 (fun k hk => by have := List.mem_range.mp hk; omega) (by simp at hc ⊢; unfold cap; omega)
    have q : B__law_ways_2 [some (.str (mk a)), some (.str (mk b)), some (.ref m.length), some (.int f), x4] (m ++ [.lst (acc.map tP)]) = .nx [some (.str (mk a)), some (.str (mk b)), some (.ref m.length), some (.int f), y4] (m ++ [.lst ((acc ++ wl a b f (List.range (min a.length b.length - f + 1))).map tP)]) := by
      unfold B__law_ways_2
      exact (forS_ok rg).trans r
    have lw := wl_len a b f (List.range (min a.length b.length - f + 1))
    rw [List.length_range] at lw
    obtain ⟨z3, z4, r2⟩ := ways_out a b ha hb m fs (acc ++ wl a b f (List.range (min a.length b.length - f + 1))) (some (.int f)) y4 (fun j hj => hk j (List.mem_cons_of_mem _ hj)) (by simp at hc ⊢; omega)
    refine ⟨z3, z4, ?_⟩
    rw [List.map_cons]
    unfold loopS
    rw [g]
    simp only [q]
    rw [r2]
    have : wls a b (f :: fs) = wl a b f (List.range (min a.length b.length - f + 1)) ++ wls a b fs := by unfold wls; rw [List.flatMap_cons]
    rw [this, List.append_assoc]
/-- all ways -/
def wall (a b : List Nat) : List (Int × Int) := wls a b (List.range (min a.length b.length + 1))
theorem wall_len (a b : List Nat) (ha : a.length ≤ 100) (hb : b.length ≤ 100) : (wall a b).length ≤ 20000 := by
  have : ∀ fs : List Nat, (wls a b fs).length ≤ 101 * fs.length := fun fs => by
    induction fs with
    | nil => simp [wls]
    | cons f fs ih =>
      have lw := wl_len a b f (List.range (min a.length b.length - f + 1))
      rw [List.length_range] at lw
      have : wls a b (f :: fs) = wl a b f (List.range (min a.length b.length - f + 1)) ++ wls a b fs := by unfold wls; rw [List.flatMap_cons]
      rw [this]; simp; omega
  have := this (List.range (min a.length b.length + 1))
  unfold wall
  simp at this; omega
theorem wall_mem {a b : List Nat} {p : Int × Int} : p ∈ wall a b ↔ ∃ f k : Nat, p = ((f : Int), (k : Int)) ∧ way a b f k := by
  unfold wall wls wl
  simp only [List.mem_flatMap, List.mem_map, List.mem_filter, List.mem_range, decide_eq_true_eq]
  constructor
  · rintro ⟨f, hf, k, ⟨hk, w⟩, rfl⟩
    exact ⟨f, k, rfl, w⟩
  · rintro ⟨f, k, rfl, w⟩
    have := w.1
    exact ⟨f, by omega, k, ⟨by omega, w⟩, rfl⟩
theorem wall_cl (n : Nat) (W : List (Int × Int)) : cls n (W.map tP) = true := by
  induction W with
  | nil => simp [cls]
  | cons p W ih => simp only [List.map_cons, cls, ih, tP, cl, Bool.and_self]
theorem ways_ok (a b : List Nat) (ha : a.length ≤ 100) (hb : b.length ≤ 100) (m : S) (wf : Wf m) : D__law_ways [.str (mk a), .str (mk b)] m = .ok (.lst ((wall a b).map tP)) m := by
  have la : a.length ≤ cap := by unfold cap; omega
  have lb : b.length ≤ cap := by unfold cap; omega
  have e1 : (min (a.length : Int) (b.length : Int) + 1) = ((min a.length b.length + 1 : Nat) : Int) := by omega
  have mi : ∀ m : S, minF [.int a.length, .int b.length] m = .ok (.int (min (a.length : Int) (b.length : Int))) m := fun m => by
      unfold minF; simp only; congr 2; split <;> omega
  have rg := rng_ok (min a.length b.length + 1) (by omega) (consL (DL.bin addF (callE minF (consL (callE lenF (consL (DL.var 0) nilL)) (consL (callE lenF (consL (DL.var 1) nilL)) nilL))) (cst (.int 1))) nilL) [some (.str (mk a)), some (.str (mk b)), some (.ref m.length), none, none] (m ++ [.lst (([] : List (Int × Int)).map tP)]) (by
      simp [runF, seqS, ifS, setS, retS, exprS, liftS, liftL, nextS, notB, isB, orB, andB, andE, orE, notE, DL.bin, DL.var, cst, callE, callF, callK, pick, consL, nilL, tupE, lstE, raiseS, asgS, gTp, gCn, gNm, gNl, ifE, methE, tyD, elems, items, R.bind_ok, R.bind_err, R.bind_bad, intF, addF, subF, geF, leF, gtF, ltF, lt2F, negE, negF, ixF, slE, someP, noP, slF, lenF, forS, loopS, itE, itT, itF, mthE, mthK, propE, noErr, fldE, fldF, fldAt, insOf, callOE, callOK, cmE, cmK, makeE, makeK, makeB, makeV, setFldS, setFldF, setAt, eqO, neO, kindOf, onlyBl, la, lb, mi, e1])
  obtain ⟨y3, y4, r⟩ := ways_out a b ha hb m (List.range (min a.length b.length + 1)) [] none none (fun k hk => by have := List.mem_range.mp hk; omega) (by simp; omega)
  have tk : (m ++ [Ob.lst ((wall a b).map tP)]).take m.length = m := List.take_left' rfl
  have fin := frz_lst (F := runF 5 F__law_ways) (ds := [.str (mk a), .str (mk b)]) (m := m) (m1 := m ++ [.lst ((wall a b).map tP)]) (n := m.length) (xs := (wall a b).map tP) ?_ (Nat.le_refl _) (by simp) (wall_cl _ _) (by rw [tk]; exact wf)
  · rw [tk] at fin; exact fin
  refine runF_ret ?_
  show F__law_ways [some (.str (mk a)), some (.str (mk b)), none, none, none] m = _
  unfold F__law_ways
  refine (seqS_nx (μ1 := [some (.str (mk a)), some (.str (mk b)), some (.ref m.length), none, none]) (m1 := m ++ [.lst (([] : List (Int × Int)).map tP)]) (by simp [runF, seqS, ifS, setS, retS, exprS, liftS, liftL, nextS, notB, isB, orB, andB, andE, orE, notE, DL.bin, DL.var, cst, callE, callF, callK, pick, consL, nilL, tupE, lstE, raiseS, asgS, gTp, gCn, gNm, gNl, ifE, methE, tyD, elems, items, R.bind_ok, R.bind_err, R.bind_bad, intF, addF, subF, geF, leF, gtF, ltF, lt2F, negE, negF, ixF, slE, someP, noP, slF, lenF, forS, loopS, itE, itT, itF, mthE, mthK, propE, noErr, fldE, fldF, fldAt, insOf, callOE, callOK, cmE, cmK, makeE, makeK, makeB, makeV, setFldS, setFldF, setAt, eqO, neO, kindOf, onlyBl, newE])).trans ?_
  refine (seqS_nx ((forS_ok rg).trans r)).trans ?_
  simp [runF, seqS, ifS, setS, retS, exprS, liftS, liftL, nextS, notB, isB, orB, andB, andE, orE, notE, DL.bin, DL.var, cst, callE, callF, callK, pick, consL, nilL, tupE, lstE, raiseS, asgS, gTp, gCn, gNm, gNl, ifE, methE, tyD, elems, items, R.bind_ok, R.bind_err, R.bind_bad, intF, addF, subF, geF, leF, gtF, ltF, lt2F, negE, negF, ixF, slE, someP, noP, slF, lenF, forS, loopS, itE, itT, itF, mthE, mthK, propE, noErr, fldE, fldF, fldAt, insOf, callOE, callOK, cmE, cmK, makeE, makeK, makeB, makeV, setFldS, setFldF, setAt, eqO, neO, kindOf, onlyBl, wall]
theorem maxI_eq {M : Int} : ∀ (ps : List Int) (p : Int), (∀ y ∈ p :: ps, y ≤ M) → M ∈ p :: ps → maxI p ps = M
  | [], p, _, h => by simp at h; simp [maxI, h]
  | q :: ps, p, h1, h2 => by
    have hp := h1 p (List.mem_cons_self ..)
    have hq := h1 q (by simp)
    have st : maxI p (q :: ps) = maxI (if decide (p < q) = true then q else p) ps := rfl
    rw [st]
    refine maxI_eq ps _ (fun y hy => ?_) ?_
    · rcases List.mem_cons.mp hy with rfl | hy
      · split <;> assumption
      · exact h1 y (by simp [hy])
    · rcases List.mem_cons.mp h2 with rfl | h2
      · by_cases c : M < q
        · omega
        · simp [c]
      · rcases List.mem_cons.mp h2 with rfl | h2
        · by_cases c : p < M
          · simp [c]
          · simp [c]; left; omega
        · exact List.mem_cons_of_mem _ h2
theorem maxP_eq {M : Int × Int} : ∀ (ps : List (Int × Int)) (p : Int × Int), (∀ y ∈ p :: ps, pltI M y = false) → M ∈ p :: ps → maxP p ps = M
  | [], p, _, h => by simp at h; simp [maxP, h]
  | q :: ps, p, h1, h2 => by
    have hp := h1 p (List.mem_cons_self ..)
    have hq := h1 q (by simp)
    have st : maxP p (q :: ps) = maxP (if pltI p q = true then q else p) ps := rfl
    rw [st]
    refine maxP_eq ps _ (fun y hy => ?_) ?_
    · rcases List.mem_cons.mp hy with rfl | hy
      · split <;> assumption
      · exact h1 y (by simp [hy])
    · rcases List.mem_cons.mp h2 with rfl | h2
      · simp [hq]
      · rcases List.mem_cons.mp h2 with rfl | h2
        · cases c : pltI p M with
          | true => simp
          | false =>
            have : p = M := by
              obtain ⟨a, b⟩ := p; obtain ⟨c', d⟩ := M
              simp [pltI] at hp c
              ext <;> simp <;> omega
            simp [this]
        · exact List.mem_cons_of_mem _ h2
end L07
end

section
open PySem DL
set_option linter.all false
set_option Elab.async false
set_option maxRecDepth 100000
set_option maxHeartbeats 8000000
namespace L07
def sumD (d : D) : D := match d with
  | .tup [.int f, .int k] => .int (f + k)
  | d => d
theorem at_last {α : Type} {l : List α} {y : α} (h : l.getLast? = some y) : L2.atI l (-1) = some y := by
  have hl : 0 < l.length := by cases l with
    | nil => cases h
    | cons => simp
  have e : l[l.length - 1]? = some y := by rw [← List.getLast?_eq_getElem?]; exact h
  have i : L2.ixN l.length (-1) = some (l.length - 1) := by
    unfold L2.ixN
    rw [if_neg (by omega), if_pos (by omega)]
    congr 1
    omega
  unfold L2.atI
  rw [i]
  exact e
theorem at_first {α : Type} {l : List α} {y : α} (h : l[0]? = some y) : L2.atI l 0 = some y := by
  have hl : 0 < l.length := by cases l with
    | nil => cases h
    | cons => simp
  have e : l[0] = y := by rw [List.getElem?_eq_getElem hl] at h; exact Option.some.inj h
  simp [L2.atI, L2.ixN, hl, e]
theorem eq_one (x y : Nat) (m : S) : eqF (.str ⟨#[x]⟩) (.str ⟨#[y]⟩) m = .ok (.bl (decide (x = y))) m := by
  have := eq_strM [x] [y] m
  rw [show decide ([x] = [y]) = decide (x = y) by simp] at this
  exact this
theorem ne_strM (a b : List Nat) (m : S) : neF (.str (mk a)) (.str (mk b)) m = .ok (.bl (!decide (a = b))) m := by simp [neF, mk_beq]
theorem idle_ok (l h : Nat × Nat) (f : List Nat) (m : S) : D_Edit_is_idle [ed l h f] m = .ok (.bl (decide (l = h ∧ f = []))) m := by
  have a1 := eq_pos l h m
  have a2 := eq_strM f [] m
  have s0 : ("" : Str) = mk [] := rfl
  by_cases x : l = h
  · subst x
    simp at a1
    simp [D_Edit_is_idle, F_Edit_is_idle, runF, seqS, ifS, setS, retS, exprS, liftS, liftL, nextS, notB, isB, orB, andB, andE, orE, notE, DL.bin, DL.var, cst, callE, callF, callK, pick, consL, nilL, tupE, lstE, raiseS, asgS, gTp, gCn, gNm, gNl, ifE, methE, tyD, elems, items, R.bind_ok, R.bind_err, R.bind_bad, intF, addF, subF, geF, leF, gtF, ltF, lt2F, negE, negF, ixF, slE, someP, noP, slF, lenF, forS, loopS, itE, itT, itF, mthE, mthK, propE, noErr, fldE, fldF, fldAt, insOf, callOE, callOK, cmE, cmK, makeE, makeK, makeB, makeV, setFldS, setFldF, setAt, eqO, neO, kindOf, onlyBl, ed, TT, sne_own_low_own_high, sne_own_low_own_fresh, sne_own_high_own_low, sne_own_high_own_fresh, sne_own_fresh_own_low, sne_own_fresh_own_high, a1, s0, a2]
  · simp [x] at a1
    simp [D_Edit_is_idle, F_Edit_is_idle, runF, seqS, ifS, setS, retS, exprS, liftS, liftL, nextS, notB, isB, orB, andB, andE, orE, notE, DL.bin, DL.var, cst, callE, callF, callK, pick, consL, nilL, tupE, lstE, raiseS, asgS, gTp, gCn, gNm, gNl, ifE, methE, tyD, elems, items, R.bind_ok, R.bind_err, R.bind_bad, intF, addF, subF, geF, leF, gtF, ltF, lt2F, negE, negF, ixF, slE, someP, noP, slF, lenF, forS, loopS, itE, itT, itF, mthE, mthK, propE, noErr, fldE, fldF, fldAt, insOf, callOE, callOK, cmE, cmK, makeE, makeK, makeB, makeV, setFldS, setFldF, setAt, eqO, neO, kindOf, onlyBl, ed, TT, sne_own_low_own_high, sne_own_low_own_fresh, sne_own_high_own_low, sne_own_high_own_fresh, sne_own_fresh_own_low, sne_own_fresh_own_high, a1, x]
theorem end_ok (t : List Nat) (h : t.length ≤ 1000) (m : S) : D_end_of [.str (mk t)] m = .ok (pos (shape 10 t).1 (shape 10 t).2) m := by
  simp [D_end_of, F_end_of, runF, seqS, ifS, setS, retS, exprS, liftS, liftL, nextS, notB, isB, orB, andB, andE, orE, notE, DL.bin, DL.var, cst, callE, callF, callK, pick, consL, nilL, tupE, lstE, raiseS, asgS, gTp, gCn, gNm, gNl, ifE, methE, tyD, elems, items, R.bind_ok, R.bind_err, R.bind_bad, intF, addF, subF, geF, leF, gtF, ltF, lt2F, negE, negF, ixF, slE, someP, noP, slF, lenF, forS, loopS, itE, itT, itF, mthE, mthK, propE, noErr, fldE, fldF, fldAt, insOf, callOE, callOK, cmE, cmK, makeE, makeK, makeB, makeV, setFldS, setFldF, setAt, eqO, neO, kindOf, onlyBl, text_ok, shape_of_ok t h]
theorem eq_bl (x y : Bool) (m : S) : eqF (.bl x) (.bl y) m = .ok (.bl (decide (x = y))) m := by cases x <;> cases y <;> rfl
theorem shape_inj (t : List Nat) (i j : Nat) (ij : i ≤ j) (hj : j ≤ t.length) (e : shape 10 (t.take i) = shape 10 (t.take j)) : i = j := by
  rcases Nat.lt_or_eq_of_le ij with h | h
  · have := shape_lt t i j h hj
    rw [e] at this
    exact absurd this (ltP_irrefl _)
  · exact h
theorem most_ok (a b : List Nat) (ha : a.length ≤ 100) (hb : b.length ≤ 100) (m : S) (wf : Wf m) (x0 x1 x3 x4 x5 x6 x7 x8 x9 x10 x11 x12 x13 x14 : Option D) :
    callE (bestIF maxI) (consL (lcE [13, 14] (itE itF (DL.var 2)) (gTp 2 (gCn (gNm 13) (gCn (gNm 14) gNl))) yesB E__law_right_1) nilL) [x0, x1, some (.lst ((wall a b).map tP)), x3, x4, x5, x6, x7, x8, x9, x10, x11, x12, x13, x14] m = .ok (.int ((cf a b + cb a b : Nat) : Int)) m := by
  have hl := wall_len a b ha hb
  have key := lcE_pure (vs := [13, 14]) (f := itE itF (DL.var 2)) (g := gTp 2 (gCn (gNm 13) (gCn (gNm 14) gNl))) (tt := yesB) (te := E__law_right_1) (μ := [x0, x1, some (.lst ((wall a b).map tP)), x3, x4, x5, x6, x7, x8, x9, x10, x11, x12, x13, x14]) (h := sumD) (m := m) (ds := (wall a b).map tP)
    (by simp [runF, seqS, ifS, setS, retS, exprS, liftS, liftL, nextS, notB, isB, orB, andB, andE, orE, notE, DL.bin, DL.var, cst, callE, callF, callK, pick, consL, nilL, tupE, lstE, raiseS, asgS, gTp, gCn, gNm, gNl, ifE, methE, tyD, elems, items, R.bind_ok, R.bind_err, R.bind_bad, intF, addF, subF, geF, leF, gtF, ltF, lt2F, negE, negF, ixF, slE, someP, noP, slF, lenF, forS, loopS, itE, itT, itF, mthE, mthK, propE, noErr, fldE, fldF, fldAt, insOf, callOE, callOK, cmE, cmK, makeE, makeK, makeB, makeV, setFldS, setFldF, setAt, eqO, neO, kindOf, onlyBl]) (fun x hx => by
      obtain ⟨p, hp, rfl⟩ := List.mem_map.mp hx
      refine ⟨_, rfl, fun m' => ⟨rfl, ?_⟩⟩
      simp [wipeD, E__law_right_1, runF, seqS, ifS, setS, retS, exprS, liftS, liftL, nextS, notB, isB, orB, andB, andE, orE, notE, DL.bin, DL.var, cst, callE, callF, callK, pick, consL, nilL, tupE, lstE, raiseS, asgS, gTp, gCn, gNm, gNl, ifE, methE, tyD, elems, items, R.bind_ok, R.bind_err, R.bind_bad, intF, addF, subF, geF, leF, gtF, ltF, lt2F, negE, negF, ixF, slE, someP, noP, slF, lenF, forS, loopS, itE, itT, itF, mthE, mthK, propE, noErr, fldE, fldF, fldAt, insOf, callOE, callOK, cmE, cmK, makeE, makeK, makeB, makeV, setFldS, setFldF, setAt, eqO, neO, kindOf, onlyBl, tP, sumD]) (by simp; unfold cap; omega) wf (by
      have e : ((wall a b).map tP).map sumD = ((wall a b).map fun p => p.1 + p.2).map .int := by rw [List.map_map, List.map_map]; rfl
      rw [e]; exact cls_ints _ _)
  have e : ((wall a b).map tP).map sumD = ((wall a b).map fun p => p.1 + p.2).map .int := by rw [List.map_map, List.map_map]; rfl
  rw [e] at key
  have mem : ((cf a b : Int), (cb a b : Int)) ∈ wall a b := wall_mem.mpr ⟨_, _, rfl, way_best a b⟩
  refine callE_ok (consL_ok key (show nilL _ _ = .ok [] m from rfl)) ?_
  unfold bestIF
  simp only [elems, intsL_map]
  cases q : (wall a b).map (fun p => p.1 + p.2) with
  | nil =>
    have := List.mem_map_of_mem (f := fun p : Int × Int => p.1 + p.2) mem
    rw [q] at this; cases this
  | cons p ps =>
    simp only
    congr 2
    refine maxI_eq ps p (fun y hy => ?_) ?_
    · rw [← q] at hy
      obtain ⟨⟨f, k⟩, hp, rfl⟩ := List.mem_map.mp hy
      obtain ⟨f', k', e, w⟩ := wall_mem.mp hp
      cases e
      have := (way_most w).1
      simp; omega
    · rw [← q]
      refine List.mem_map.mpr ⟨_, mem, ?_⟩
      simp
theorem best_ok (a b : List Nat) (ha : a.length ≤ 100) (hb : b.length ≤ 100) (m : S) (wf : Wf m) (x0 x1 x4 x5 x6 x7 x8 x9 x10 x11 x12 x13 x14 : Option D) :
    callE (bestF maxP) (consL (lcE [12] (itE itF (DL.var 2)) (gNm 12) T__law_right_3 E__law_right_2) nilL) [x0, x1, some (.lst ((wall a b).map tP)), some (.int ((cf a b + cb a b : Nat) : Int)), x4, x5, x6, x7, x8, x9, x10, x11, x12, x13, x14] m = .ok (.tup [.int (cf a b), .int (cb a b)]) m := by
  have hl := wall_len a b ha hb
  obtain ⟨N, hN⟩ : ∃ N : Int, N = ((cf a b + cb a b : Nat) : Int) := ⟨_, rfl⟩
  rw [← hN]
  have key := lcE_filt (vs := [12]) (f := itE itF (DL.var 2)) (g := gNm 12) (tt := T__law_right_3) (te := E__law_right_2) (μ := [x0, x1, some (.lst ((wall a b).map tP)), some (.int N), x4, x5, x6, x7, x8, x9, x10, x11, x12, x13, x14]) (p := fun d => match d with | .tup [.int f, .int k] => decide (f + k = N) | _ => false) (h := id) (m := m) (ds := (wall a b).map tP)
    (by simp [runF, seqS, ifS, setS, retS, exprS, liftS, liftL, nextS, notB, isB, orB, andB, andE, orE, notE, DL.bin, DL.var, cst, callE, callF, callK, pick, consL, nilL, tupE, lstE, raiseS, asgS, gTp, gCn, gNm, gNl, ifE, methE, tyD, elems, items, R.bind_ok, R.bind_err, R.bind_bad, intF, addF, subF, geF, leF, gtF, ltF, lt2F, negE, negF, ixF, slE, someP, noP, slF, lenF, forS, loopS, itE, itT, itF, mthE, mthK, propE, noErr, fldE, fldF, fldAt, insOf, callOE, callOK, cmE, cmK, makeE, makeK, makeB, makeV, setFldS, setFldF, setAt, eqO, neO, kindOf, onlyBl]) (fun x hx => by
      obtain ⟨p, hp, rfl⟩ := List.mem_map.mp hx
      refine ⟨_, rfl, fun m' => ⟨?_, fun _ => ?_⟩⟩
      · simp [wipeD, T__law_right_3, runF, seqS, ifS, setS, retS, exprS, liftS, liftL, nextS, notB, isB, orB, andB, andE, orE, notE, DL.bin, DL.var, cst, callE, callF, callK, pick, consL, nilL, tupE, lstE, raiseS, asgS, gTp, gCn, gNm, gNl, ifE, methE, tyD, elems, items, R.bind_ok, R.bind_err, R.bind_bad, intF, addF, subF, geF, leF, gtF, ltF, lt2F, negE, negF, ixF, slE, someP, noP, slF, lenF, forS, loopS, itE, itT, itF, mthE, mthK, propE, noErr, fldE, fldF, fldAt, insOf, callOE, callOK, cmE, cmK, makeE, makeK, makeB, makeV, setFldS, setFldF, setAt, eqO, neO, kindOf, onlyBl, tP, L2.atI, L2.ixN, eqF, eqD0, pyM, py, PyData.eqv, SeqAt.shaped, PyData.canLay0, PyData.depth]
        by_cases z : p.1 + p.2 = N <;> simp [z]
      · simp [wipeD, E__law_right_2, runF, seqS, ifS, setS, retS, exprS, liftS, liftL, nextS, notB, isB, orB, andB, andE, orE, notE, DL.bin, DL.var, cst, callE, callF, callK, pick, consL, nilL, tupE, lstE, raiseS, asgS, gTp, gCn, gNm, gNl, ifE, methE, tyD, elems, items, R.bind_ok, R.bind_err, R.bind_bad, intF, addF, subF, geF, leF, gtF, ltF, lt2F, negE, negF, ixF, slE, someP, noP, slF, lenF, forS, loopS, itE, itT, itF, mthE, mthK, propE, noErr, fldE, fldF, fldAt, insOf, callOE, callOK, cmE, cmK, makeE, makeK, makeB, makeV, setFldS, setFldF, setAt, eqO, neO, kindOf, onlyBl]) (by simp; unfold cap; omega) wf (by
      rw [List.map_id]
      have : ∀ W : List (Int × Int), cls m.length ((W.map tP).filter fun d => match d with | .tup [.int f, .int k] => decide (f + k = N) | _ => false) = true := fun W => by
        rw [List.filter_map]; exact wall_cl _ _
      exact this _)
  rw [List.map_id, List.filter_map] at key
  have mem : ((cf a b : Int), (cb a b : Int)) ∈ wall a b := wall_mem.mpr ⟨_, _, rfl, way_best a b⟩
  have fe : ((fun d : D => match d with | .tup [.int f, .int k] => decide (f + k = N) | _ => false) ∘ tP) = fun p : Int × Int => decide (p.1 + p.2 = N) := rfl
  rw [fe] at key
  refine callE_ok (consL_ok key (show nilL _ _ = .ok [] m from rfl)) ?_
  unfold bestF
  simp only [elems, prsOf_map]
  have mem2 : ((cf a b : Int), (cb a b : Int)) ∈ (wall a b).filter (fun p : Int × Int => decide (p.1 + p.2 = N)) := List.mem_filter.mpr ⟨mem, by simp [hN]⟩
  cases q : (wall a b).filter (fun p : Int × Int => decide (p.1 + p.2 = N)) with
  | nil => rw [q] at mem2; cases mem2
  | cons p ps =>
    simp only
    have : maxP p ps = ((cf a b : Int), (cb a b : Int)) := by
      refine maxP_eq ps p (fun y hy => ?_) (by rw [← q]; exact mem2)
      rw [← q] at hy
      obtain ⟨h1, h2⟩ := List.mem_filter.mp hy
      obtain ⟨f', k', rfl, w⟩ := wall_mem.mp h1
      have := (way_most w).2
      simp [hN] at h2
      simp [pltI]; omega
    rw [this]; rfl
/-- both middle parts begin and end with other signs -/
theorem mid_ne (a b : List Nat) (x y : List Nat) (hx : x = (a.drop (cf a b)).take (a.length - cb a b - cf a b)) (hy : y = (b.drop (cf a b)).take (b.length - cb a b - cf a b)) (nx : x ≠ []) (ny : y ≠ []) :
    ∃ x1 x2 y1 y2, L2.atI x 0 = some x1 ∧ L2.atI x (-1) = some x2 ∧ L2.atI y 0 = some y1 ∧ L2.atI y (-1) = some y2 ∧ x1 ≠ y1 ∧ x2 ≠ y2 := by
  have wb := (way_best a b).1
  have lx : x.length = a.length - cb a b - cf a b := by rw [hx]; simp; omega
  have ly : y.length = b.length - cb a b - cf a b := by rw [hy]; simp; omega
  have px : 0 < x.length := List.length_pos_iff.mpr nx
  have py : 0 < y.length := List.length_pos_iff.mpr ny
  have f := front_ne a b (by omega) (by omega)
  have l := back_ne a b (by omega) (by omega)
  have x0 : x[0]? = a[cf a b]? := by rw [hx, List.getElem?_take_of_lt (by omega), List.getElem?_drop]; rfl
  have y0 : y[0]? = b[cf a b]? := by rw [hy, List.getElem?_take_of_lt (by omega), List.getElem?_drop]; rfl
  have x9 : x[x.length - 1]? = a[a.length - 1 - cb a b]? := by rw [lx, hx, List.getElem?_take_of_lt (by omega), List.getElem?_drop]; congr 1; omega
  have y9 : y[y.length - 1]? = b[b.length - 1 - cb a b]? := by rw [ly, hy, List.getElem?_take_of_lt (by omega), List.getElem?_drop]; congr 1; omega
  refine ⟨x[0], x[x.length - 1], y[0], y[y.length - 1], at_first (List.getElem?_eq_getElem px), at_last ?_, at_first (List.getElem?_eq_getElem py), at_last ?_, fun e => ?_, fun e => ?_⟩
  · rw [List.getLast?_eq_getElem?]; exact List.getElem?_eq_getElem (by omega)
  · rw [List.getLast?_eq_getElem?]; exact List.getElem?_eq_getElem (by omega)
  · rw [← x0, ← y0, List.getElem?_eq_getElem px, List.getElem?_eq_getElem py, e] at f; exact f rfl
  · rw [← x9, ← y9, List.getElem?_eq_getElem (by omega : x.length - 1 < x.length), List.getElem?_eq_getElem (by omega : y.length - 1 < y.length), e] at l; exact l rfl
end L07
end

section
open PySem DL
set_option linter.all false
set_option Elab.async false
set_option maxRecDepth 100000
set_option maxHeartbeats 8000000
namespace DL
/-- a comprehension whose test refuses all -/
theorem lcLoop_no {g : GD} {tt : EB} {te : E1} {μ : Env'} {k : Nat} {M : S} : ∀ (xs : List D), (∀ x ∈ xs, ∃ μx, g x μ = some μx ∧ tt μx M = .ok false M) → lcLoop k g tt te μ xs M = some M
  | [], _ => rfl
  | x :: xs, h => by
    obtain ⟨μx, e1, e2⟩ := h x (List.mem_cons_self ..)
    unfold lcLoop
    rw [e1]
    simp only [e2]
    exact lcLoop_no xs fun y hy => h y (List.mem_cons_of_mem _ hy)
theorem lcE_no {vs : List Nat} {f : EL} {g : GD} {tt : EB} {te : E1} {μ : Env'} {m : S} {ds : List D} (hf : f μ m = .ok ds m) (hx : ∀ x ∈ ds, ∃ μx, g x (wipeD μ vs) = some μx ∧ tt μx (m ++ [.lst []]) = .ok false (m ++ [.lst []])) (wf : Wf m) : lcE vs f g tt te μ m = .ok (.lst []) m := by
  unfold lcE
  rw [hf, R.bind_ok, lcLoop_no ds hx]
  unfold Wf at wf
  simp [takeL, cls, wf]
end DL
namespace L07
theorem right_ok (a b : List Nat) (ha : a.length ≤ 40) (hb : b.length ≤ 40) (m : S) (wf : Wf m) : D__law_right [.str (mk a), .str (mk b)] m = .ok (.bl true) m := by
  have la : a.length ≤ cap := by unfold cap; omega
  have lb : b.length ≤ cap := by unfold cap; omega
  have wb := (way_best a b).1
  have cc : cf b a = cf a b := cf_comm b a
  have cbc : cb b a = cb a b := cb_comm b a
  have d1 := between_ok a b (by omega) (by omega) m wf
  have d2 := between_ok b a (by omega) (by omega) m wf
  have d3 := ways_ok a b (by omega) (by omega) m wf
  have f1 := law_place_ok a (by omega) (cf a b) (by omega) m
  have f2 := law_place_ok a (by omega) (a.length - cb a b) (by omega) m
  have i1 := ixP_shape a (cf a b) (by omega)
  have i2 := ixP_shape a (a.length - cb a b) (by omega)
  have nl := shape_le_mono a (cf a b) (a.length - cb a b) (by omega) (by omega)
  have mk1 := made a b
  unfold chg at d1 d2
  rw [cc, cbc] at d2
  obtain ⟨F, hF⟩ : ∃ q, q = cf a b := ⟨_, rfl⟩
  obtain ⟨B, hB⟩ : ∃ q, q = cb a b := ⟨_, rfl⟩
  obtain ⟨g, hg⟩ : ∃ q, q = (a.drop (cf a b)).take (a.length - cb a b - cf a b) := ⟨_, rfl⟩
  obtain ⟨f, hf⟩ : ∃ q, q = (b.drop (cf a b)).take (b.length - cb a b - cf a b) := ⟨_, rfl⟩
  have mid := mid_ne a b g f hg hf
  have lg : g.length ≤ 40 := by rw [hg]; simp; omega
  have lf : f.length ≤ 40 := by rw [hf]; simp; omega
  have h1 : shape 10 (b.take (cf a b)) = shape 10 (a.take (cf a b)) := by rw [(way_best a b).2.1]
  have h2 : shape 10 (b.take (b.length - cb a b)) = comb (shape 10 (a.take (cf a b))) (shape 10 f) := by
    rw [← h1, ← shape_app, hf]
    congr 1
    have e : b.length - cb a b = cf a b + (b.length - cb a b - cf a b) := by omega
    conv => lhs; rw [e, List.take_add]
  have idl := idle_iff a b
  rw [← hf] at d1 mk1 idl
  rw [← hg, h1, h2] at d2
  have inj := shape_inj a (cf a b) (a.length - cb a b) (by omega) (by omega)
  have c3 := cut_mid b (cf a b) (b.length - cb a b) (by omega) (by omega)
  have c4 := cut_mid a (cf a b) (a.length - cb a b) (by omega) (by omega)
  rw [← hf] at c3
  rw [← hg] at c4
  have e1 : ((a.length : Int) - (cb a b : Int)) = ((a.length - cb a b : Nat) : Int) := by omega
  have e2 : ((b.length : Int) - (cb a b : Int)) = ((b.length - cb a b : Nat) : Int) := by omega
  have s4 := most_ok a b (by omega) (by omega) m wf
  have s5 := best_ok a b (by omega) (by omega) m wf
  have full : a = b → cf a b = a.length := fun e => by subst e; exact cf_self a
  have lcb : cf a b + cb a b ≤ a.length := by omega
  simp only [← hF, ← hB] at d1 d2 f1 f2 i1 i2 nl mk1 idl c3 c4 e1 e2 s4 s5 inj lcb
  simp only [← hF] at full
  obtain ⟨l, hl⟩ : ∃ p : Nat × Nat, p = shape 10 (a.take F) := ⟨_, rfl⟩
  obtain ⟨h, hh⟩ : ∃ p : Nat × Nat, p = shape 10 (a.take (a.length - B)) := ⟨_, rfl⟩
  simp only [← hl] at d2
  simp only [← hl] at d1 f1 i1 nl inj
  simp only [← hh] at d1 f2 i2 nl inj
  have g0 := ed_ok l h f nl m wf
  have g1 := call_ok l h f a (by omega) (by omega) F (a.length - B) i1 i2 m wf
  rw [mk1] at g1
  have g2 := opp_ok l h f a (by omega) (by omega) F (a.length - B) i1 i2 (by omega) m wf
  rw [← hF, ← hB] at hg
  rw [← hg] at g2
  have k1 := low_ok l h f m
  have k3 := fresh_ok l h f m
  have k4 := idle_ok l h f m
  have o1 := no_ed l h l h f f m
  have o2 := no_ed l (comb l (shape 10 f)) l (comb l (shape 10 f)) g g m
  simp at o1 o2
  have n1 := ne_strM b b m
  simp at n1
  have en := end_ok a (by omega) m
  refine runF_ret ?_
  show F__law_right [some (.str (mk a)), some (.str (mk b)), none, none, none, none, none, none, none, none, none, none, none, none, none] m = _
  unfold F__law_right
  refine (seqS_nx (μ1 := [some (.str (mk a)), some (.str (mk b)), none, none, none, none, some (ed l h f), some (ed l h f), none, none, none, none, none, none, none]) (m1 := m) (by
    simp [runF, seqS, ifS, setS, retS, exprS, liftS, liftL, nextS, notB, isB, orB, andB, andE, orE, notE, DL.bin, DL.var, cst, callE, callF, callK, pick, consL, nilL, tupE, lstE, raiseS, asgS, gTp, gCn, gNm, gNl, ifE, methE, tyD, elems, items, R.bind_ok, R.bind_err, R.bind_bad, intF, addF, subF, geF, leF, gtF, ltF, lt2F, negE, negF, ixF, slE, someP, noP, slF, lenF, forS, loopS, itE, itT, itF, mthE, mthK, propE, noErr, fldE, fldF, fldAt, insOf, callOE, callOK, cmE, cmK, makeE, makeK, makeB, makeV, setFldS, setFldF, setAt, eqO, neO, kindOf, onlyBl, parS, d1])).trans ?_
  refine (seqS_nx (μ1 := [some (.str (mk a)), some (.str (mk b)), some (.lst ((wall a b).map tP)), none, none, none, some (ed l h f), some (ed l h f), none, none, none, none, none, none, none]) (m1 := m) (by
    simp [runF, seqS, ifS, setS, retS, exprS, liftS, liftL, nextS, notB, isB, orB, andB, andE, orE, notE, DL.bin, DL.var, cst, callE, callF, callK, pick, consL, nilL, tupE, lstE, raiseS, asgS, gTp, gCn, gNm, gNl, ifE, methE, tyD, elems, items, R.bind_ok, R.bind_err, R.bind_bad, intF, addF, subF, geF, leF, gtF, ltF, lt2F, negE, negF, ixF, slE, someP, noP, slF, lenF, forS, loopS, itE, itT, itF, mthE, mthK, propE, noErr, fldE, fldF, fldAt, insOf, callOE, callOK, cmE, cmK, makeE, makeK, makeB, makeV, setFldS, setFldF, setAt, eqO, neO, kindOf, onlyBl, d3])).trans ?_
  refine (seqS_nx (μ1 := [some (.str (mk a)), some (.str (mk b)), some (.lst ((wall a b).map tP)), some (.int ((F + B : Nat) : Int)), none, none, some (ed l h f), some (ed l h f), none, none, none, none, none, none, none]) (m1 := m) (setS_ok (s4 _ _ _ _ _ _ _ _ _ _ _ _ _ _))).trans ?_
  refine (seqS_nx (μ1 := [some (.str (mk a)), some (.str (mk b)), some (.lst ((wall a b).map tP)), some (.int ((F + B : Nat) : Int)), some (.tup [.int F, .int B]), none, some (ed l h f), some (ed l h f), none, none, none, none, none, none, none]) (m1 := m) (setS_ok (s5 _ _ _ _ _ _ _ _ _ _ _ _ _))).trans ?_
  generalize D.lst ((wall a b).map tP) = W
  refine (seqS_nx (μ1 := [some (.str (mk a)), some (.str (mk b)), some W, some (.int ((F + B : Nat) : Int)), some (.tup [.int F, .int B]), none, some (ed l h f), some (ed l h f), some (.int F), some (.int (a.length - B : Nat)), none, none, none, none, none]) (m1 := m) (by
    simp [runF, seqS, ifS, setS, retS, exprS, liftS, liftL, nextS, notB, isB, orB, andB, andE, orE, notE, DL.bin, DL.var, cst, callE, callF, callK, pick, consL, nilL, tupE, lstE, raiseS, asgS, gTp, gCn, gNm, gNl, ifE, methE, tyD, elems, items, R.bind_ok, R.bind_err, R.bind_bad, intF, addF, subF, geF, leF, gtF, ltF, lt2F, negE, negF, ixF, slE, someP, noP, slF, lenF, forS, loopS, itE, itT, itF, mthE, mthK, propE, noErr, fldE, fldF, fldAt, insOf, callOE, callOK, cmE, cmK, makeE, makeK, makeB, makeV, setFldS, setFldF, setAt, eqO, neO, kindOf, onlyBl, parS, L2.atI, L2.ixN, la, e1])).trans ?_
  refine (seqS_nx (μ1 := [some (.str (mk a)), some (.str (mk b)), some W, some (.int ((F + B : Nat) : Int)), some (.tup [.int F, .int B]), some (ed l h f), some (ed l h f), some (ed l h f), some (.int F), some (.int (a.length - B : Nat)), none, none, none, none, none]) (m1 := m) (by
    simp [runF, seqS, ifS, setS, retS, exprS, liftS, liftL, nextS, notB, isB, orB, andB, andE, orE, notE, DL.bin, DL.var, cst, callE, callF, callK, pick, consL, nilL, tupE, lstE, raiseS, asgS, gTp, gCn, gNm, gNl, ifE, methE, tyD, elems, items, R.bind_ok, R.bind_err, R.bind_bad, intF, addF, subF, geF, leF, gtF, ltF, lt2F, negE, negF, ixF, slE, someP, noP, slF, lenF, forS, loopS, itE, itT, itF, mthE, mthK, propE, noErr, fldE, fldF, fldAt, insOf, callOE, callOK, cmE, cmK, makeE, makeK, makeB, makeV, setFldS, setFldF, setAt, eqO, neO, kindOf, onlyBl, L2.atI, L2.ixN, lb, e2, f1, f2, c3, g0])).trans ?_
  refine (seqS_nx (μ1 := [some (.str (mk a)), some (.str (mk b)), some W, some (.int ((F + B : Nat) : Int)), some (.tup [.int F, .int B]), some (ed l h f), some (ed l h f), some (ed l h f), some (.int F), some (.int (a.length - B : Nat)), none, none, none, none, none]) (m1 := m) (by
    have e : mthE disp_opposite (DL.var 6) (consL (DL.var 0) nilL) [some (.str (mk a)), some (.str (mk b)), some W, some (.int ((F + B : Nat) : Int)), some (.tup [.int F, .int B]), some (ed l h f), some (ed l h f), some (ed l h f), some (.int F), some (.int (a.length - B : Nat)), none, none, none, none, none] m = .ok (ed l (comb l (shape 10 f)) g) m := by
      rw [ed_def l h f] at g2 ⊢
      simp [runF, seqS, ifS, setS, retS, exprS, liftS, liftL, nextS, notB, isB, orB, andB, andE, orE, notE, DL.bin, DL.var, cst, callE, callF, callK, pick, consL, nilL, tupE, lstE, raiseS, asgS, gTp, gCn, gNm, gNl, ifE, methE, tyD, elems, items, R.bind_ok, R.bind_err, R.bind_bad, intF, addF, subF, geF, leF, gtF, ltF, lt2F, negE, negF, ixF, slE, someP, noP, slF, lenF, forS, loopS, itE, itT, itF, mthE, mthK, propE, noErr, fldE, fldF, fldAt, insOf, callOE, callOK, cmE, cmK, makeE, makeK, makeB, makeV, setFldS, setFldF, setAt, eqO, neO, kindOf, onlyBl, disp_opposite, g2]
    have e3 : callOE disp___call__ (DL.var 6) (consL (DL.var 0) nilL) [some (.str (mk a)), some (.str (mk b)), some W, some (.int ((F + B : Nat) : Int)), some (.tup [.int F, .int B]), some (ed l h f), some (ed l h f), some (ed l h f), some (.int F), some (.int (a.length - B : Nat)), none, none, none, none, none] m = .ok (.str (mk b)) m := by
      rw [ed_def l h f] at g1 ⊢
      simp [runF, seqS, ifS, setS, retS, exprS, liftS, liftL, nextS, notB, isB, orB, andB, andE, orE, notE, DL.bin, DL.var, cst, callE, callF, callK, pick, consL, nilL, tupE, lstE, raiseS, asgS, gTp, gCn, gNm, gNl, ifE, methE, tyD, elems, items, R.bind_ok, R.bind_err, R.bind_bad, intF, addF, subF, geF, leF, gtF, ltF, lt2F, negE, negF, ixF, slE, someP, noP, slF, lenF, forS, loopS, itE, itT, itF, mthE, mthK, propE, noErr, fldE, fldF, fldAt, insOf, callOE, callOK, cmE, cmK, makeE, makeK, makeB, makeV, setFldS, setFldF, setAt, eqO, neO, kindOf, onlyBl, disp___call__, g1]
    have e4 : cmE 329 D_Edit_between (consL (DL.var 1) (consL (DL.var 0) nilL)) [some (.str (mk a)), some (.str (mk b)), some W, some (.int ((F + B : Nat) : Int)), some (.tup [.int F, .int B]), some (ed l h f), some (ed l h f), some (ed l h f), some (.int F), some (.int (a.length - B : Nat)), none, none, none, none, none] m = .ok (ed l (comb l (shape 10 f)) g) m := by
      simp [runF, seqS, ifS, setS, retS, exprS, liftS, liftL, nextS, notB, isB, orB, andB, andE, orE, notE, DL.bin, DL.var, cst, callE, callF, callK, pick, consL, nilL, tupE, lstE, raiseS, asgS, gTp, gCn, gNm, gNl, ifE, methE, tyD, elems, items, R.bind_ok, R.bind_err, R.bind_bad, intF, addF, subF, geF, leF, gtF, ltF, lt2F, negE, negF, ixF, slE, someP, noP, slF, lenF, forS, loopS, itE, itT, itF, mthE, mthK, propE, noErr, fldE, fldF, fldAt, insOf, callOE, callOK, cmE, cmK, makeE, makeK, makeB, makeV, setFldS, setFldF, setAt, eqO, neO, kindOf, onlyBl, d2]
    have n2 : neO TT disp___eq__ (oksB [4] EQT) (.str (mk b)) (.str (mk b)) m = .ok (.bl false) m := n1
    exact (ifS_f ((orB_f (isB_ok (bin_ok rfl rfl o1))).trans ((orB_f (isB_ok (bin_ok rfl rfl o1))).trans ((orB_f (isB_ok (bin_ok e3 rfl n2))).trans (isB_ok (bin_ok e4 e o2)))))).trans rfl)).trans ?_
  refine (seqS_nx (μ1 := [some (.str (mk a)), some (.str (mk b)), some W, some (.int ((F + B : Nat) : Int)), some (.tup [.int F, .int B]), some (ed l h f), some (ed l h f), some (ed l h f), some (.int F), some (.int (a.length - B : Nat)), some (.str (mk g)), some (.str (mk f)), none, none, none]) (m1 := m) (by
    rw [ed_def l h f] at k3 ⊢
    simp [runF, seqS, ifS, setS, retS, exprS, liftS, liftL, nextS, notB, isB, orB, andB, andE, orE, notE, DL.bin, DL.var, cst, callE, callF, callK, pick, consL, nilL, tupE, lstE, raiseS, asgS, gTp, gCn, gNm, gNl, ifE, methE, tyD, elems, items, R.bind_ok, R.bind_err, R.bind_bad, intF, addF, subF, geF, leF, gtF, ltF, lt2F, negE, negF, ixF, slE, someP, noP, slF, lenF, forS, loopS, itE, itT, itF, mthE, mthK, propE, noErr, fldE, fldF, fldAt, insOf, callOE, callOK, cmE, cmK, makeE, makeK, makeB, makeV, setFldS, setFldF, setAt, eqO, neO, kindOf, onlyBl, parS, la, c4, disp_fresh, k3])).trans ?_
  refine (seqS_nx (μ1 := [some (.str (mk a)), some (.str (mk b)), some W, some (.int ((F + B : Nat) : Int)), some (.tup [.int F, .int B]), some (ed l h f), some (ed l h f), some (ed l h f), some (.int F), some (.int (a.length - B : Nat)), some (.str (mk g)), some (.str (mk f)), none, none, none]) (m1 := m) (by
    have s0 : ("" : Str) = mk [] := rfl
    have q1 : ∀ x, neO TT disp___eq__ (oksB [4] EQT) (.str (mk x)) (.str (mk [])) m = .ok (.bl (!decide (x = []))) m := fun x => ne_strM x [] m
    have q3 : ∀ x y, eqO TT disp___eq__ (oksB [4] EQT) (.str ⟨#[x]⟩) (.str ⟨#[y]⟩) m = .ok (.bl (decide (x = y))) m := fun x y => eq_one x y m
    have lg2 : g.length ≤ cap := by unfold cap; omega
    have lf2 : f.length ≤ cap := by unfold cap; omega
    by_cases z1 : g = []
    · simp [ifS, andB, isB, DL.bin, DL.var, cst, R.bind_ok, s0, q1, z1, nextS]
    · by_cases z2 : f = []
      · simp [ifS, andB, isB, DL.bin, DL.var, cst, R.bind_ok, s0, q1, z1, z2, nextS]
      · obtain ⟨x1, x2, y1, y2, w1, w2, w3, w4, w5, w6⟩ := mid z1 z2
        simp [ifS, andB, orB, isB, DL.bin, DL.var, cst, R.bind_ok, s0, q1, z1, z2, nextS, ixF, negE, negF, intF, lg2, lf2, w1, w2, w3, w4, q3, w5, w6])).trans ?_
  refine retS_ok ?_
  have e5 : propE disp_is_idle (DL.var 6) [some (.str (mk a)), some (.str (mk b)), some W, some (.int ((F + B : Nat) : Int)), some (.tup [.int F, .int B]), some (ed l h f), some (ed l h f), some (ed l h f), some (.int F), some (.int (a.length - B : Nat)), some (.str (mk g)), some (.str (mk f)), none, none, none] m = .ok (.bl (decide (l = h ∧ f = []))) m := by
    rw [ed_def l h f] at k4 ⊢
    simp [runF, seqS, ifS, setS, retS, exprS, liftS, liftL, nextS, notB, isB, orB, andB, andE, orE, notE, DL.bin, DL.var, cst, callE, callF, callK, pick, consL, nilL, tupE, lstE, raiseS, asgS, gTp, gCn, gNm, gNl, ifE, methE, tyD, elems, items, R.bind_ok, R.bind_err, R.bind_bad, intF, addF, subF, geF, leF, gtF, ltF, lt2F, negE, negF, ixF, slE, someP, noP, slF, lenF, forS, loopS, itE, itT, itF, mthE, mthK, propE, noErr, fldE, fldF, fldAt, insOf, callOE, callOK, cmE, cmK, makeE, makeK, makeB, makeV, setFldS, setFldF, setAt, eqO, neO, kindOf, onlyBl, disp_is_idle, k4]
  have e6 : propE disp_low (DL.var 6) [some (.str (mk a)), some (.str (mk b)), some W, some (.int ((F + B : Nat) : Int)), some (.tup [.int F, .int B]), some (ed l h f), some (ed l h f), some (ed l h f), some (.int F), some (.int (a.length - B : Nat)), some (.str (mk g)), some (.str (mk f)), none, none, none] m = .ok (pos l.1 l.2) m := by
    rw [ed_def l h f] at k1 ⊢
    simp [runF, seqS, ifS, setS, retS, exprS, liftS, liftL, nextS, notB, isB, orB, andB, andE, orE, notE, DL.bin, DL.var, cst, callE, callF, callK, pick, consL, nilL, tupE, lstE, raiseS, asgS, gTp, gCn, gNm, gNl, ifE, methE, tyD, elems, items, R.bind_ok, R.bind_err, R.bind_bad, intF, addF, subF, geF, leF, gtF, ltF, lt2F, negE, negF, ixF, slE, someP, noP, slF, lenF, forS, loopS, itE, itT, itF, mthE, mthK, propE, noErr, fldE, fldF, fldAt, insOf, callOE, callOK, cmE, cmK, makeE, makeK, makeB, makeV, setFldS, setFldF, setAt, eqO, neO, kindOf, onlyBl, disp_low, k1]
  have q1 : eqO TT disp___eq__ (oksB [4] EQT) (.str (mk a)) (.str (mk b)) m = .ok (.bl (decide (a = b))) m := eq_strM a b m
  have q2 : neO TT disp___eq__ (oksB [4] EQT) (.str (mk a)) (.str (mk b)) m = .ok (.bl (!decide (a = b))) m := ne_strM a b m
  have q3 : ∀ x y, eqO TT disp___eq__ (oksB [4] EQT) (.bl x) (.bl y) m = .ok (.bl (decide (x = y))) m := fun x y => eq_bl x y m
  have q4 : ∀ p q : Nat × Nat, eqO TT disp___eq__ (oksB [4] EQT) (pos p.1 p.2) (pos q.1 q.2) m = .ok (.bl (decide (p = q))) m := fun p q => eq_pos p q m
  have ab : decide (l = h ∧ f = []) = decide (a = b) := by
    congr 1
    refine propext ⟨fun ⟨z1, z2⟩ => idl.mp ⟨inj z1, z2⟩, fun z => ?_⟩
    obtain ⟨z1, z2⟩ := idl.mpr z
    exact ⟨by rw [hl, hh, z1], z2⟩
  have at1 : ∀ {f g : E1} {μ : Env'} {m m1 : S}, f μ m = .ok (.bl true) m1 → andE f g μ m = g μ m1 := fun h => by unfold andE; rw [h]; rfl
  have ot1 : ∀ {f g : E1} {μ : Env'} {m m1 : S}, f μ m = .ok (.bl true) m1 → orE f g μ m = .ok (.bl true) m1 := fun h => by unfold orE; rw [h]; rfl
  have of1 : ∀ {f g : E1} {μ : Env'} {m m1 : S}, f μ m = .ok (.bl false) m1 → orE f g μ m = g μ m1 := fun h => by unfold orE; rw [h]; rfl
  refine (at1 (m1 := m) ((bin_ok e5 (bin_ok rfl rfl q1) (q3 _ _)).trans (by rw [ab]; simp))).trans ?_
  by_cases z : a = b
  · have z3 : l = shape 10 a := by rw [hl, full z, List.take_length]
    refine (of1 (m1 := m) ((bin_ok rfl rfl q2).trans (by simp [z]))).trans ?_
    refine (bin_ok e6 (callF_ok (ds := [.str (mk a)]) rfl en) (q4 l (shape 10 a))).trans (by simp [z3])
  · exact ot1 ((bin_ok rfl rfl q2).trans (by simp [z]))
end L07
end

section
open PySem DL
set_option linter.all false
set_option Elab.async false
set_option maxRecDepth 100000
set_option maxHeartbeats 8000000
namespace L07
theorem cut_ok {n : Nat} {b : Int} {m : S} (t : List Nat) (ht : t.length ≤ 40) (sm : Sm n b m) (hb : b < 1000000) : ∃ (i j : Nat) (f : List Nat) (m' : S), i ≤ j ∧ j ≤ t.length ∧ f.length ≤ 4 ∧ (∀ c ∈ f, c < 128) ∧ D__law_cut [.ref n, .str (mk t)] m = .ok (.tup [.int i, .int j, .str (mk f)]) m' ∧ Sm n (b + 8) m' := by
  obtain ⟨v1, m1, p1, q1, e1, sm1, _⟩ := draw_st (top := (t.length : Int) + 1) sm (by omega) (by omega) (by omega)
  obtain ⟨v1, rfl⟩ := Int.eq_ofNat_of_zero_le p1
  obtain ⟨d, hd, m2, e2, sm2, _⟩ := pick_st (ds := [.int 0, .int 0, .int 1, .int 2, .int 4, .int 50]) sm1 (by omega) (by decide) (by decide)
  obtain ⟨x, rfl⟩ : ∃ x : Nat, d = .int x := by
    simp only [List.mem_cons, List.not_mem_nil, or_false] at hd
    rcases hd with rfl | rfl | rfl | rfl | rfl | rfl
    · exact ⟨0, rfl⟩
    · exact ⟨0, rfl⟩
    · exact ⟨1, rfl⟩
    · exact ⟨2, rfl⟩
    · exact ⟨4, rfl⟩
    · exact ⟨50, rfl⟩
  obtain ⟨f, m3, lf, cf, e3, sm3, _⟩ := signs_st (most := 4) sm2 (by omega) (by decide)
  have lt : t.length ≤ cap := by unfold cap; omega
  have mi := fun m => min_ok t.length (v1 + x) m
  refine ⟨v1, min t.length (v1 + x), f, m3, by omega, by omega, lf, cf, ?_, sm3.mono (by omega)⟩
  simp at mi e3
  simp [D__law_cut, F__law_cut, runF, seqS, ifS, setS, retS, exprS, liftS, liftL, nextS, notB, isB, orB, andB, andE, orE, notE, DL.bin, DL.var, cst, callE, callF, callK, pick, consL, nilL, tupE, lstE, raiseS, asgS, gTp, gCn, gNm, gNl, ifE, methE, tyD, elems, items, R.bind_ok, R.bind_err, R.bind_bad, intF, addF, subF, geF, leF, gtF, ltF, lt2F, negE, negF, ixF, slE, someP, noP, slF, lenF, forS, loopS, itE, itT, itF, mthE, mthK, propE, noErr, fldE, fldF, fldAt, insOf, callOE, callOK, cmE, cmK, makeE, makeK, makeB, makeV, setFldS, setFldF, setAt, eqO, neO, kindOf, onlyBl, lt, e1, e2, e3, mi]
theorem ne_nil (m : S) : neO TT disp___eq__ (oksB [4] EQT) (.lst []) (.lst []) m = .ok (.bl false) m := (show neF (.lst []) (.lst []) m = .ok (.bl false) m from ne_self (k := 1) (by simp [okD, okDs]) (by decide) m)
theorem turn_ok {n : Nat} {b : Int} {m : S} (sm : Sm n b m) (hb : b < 1000) (x0 x1 x2 x3 x5 x6 x7 x8 x9 x10 x11 x12 x13 x14 : Option D) : ∃ y7 y8 y9 y10 y11 y12 y13 m', B_law_3 [x0, x1, x2, x3, some (.ref n), x5, x6, x7, x8, x9, x10, x11, x12, x13, x14] m = .nx [x0, x1, x2, x3, some (.ref n), x5, x6, y7, y8, y9, y10, y11, y12, y13, x14] m' ∧ Sm n (b + 40) m' := by
  obtain ⟨t, m1, l1, hc, e1, sm1, _⟩ := signs_st (most := 10) sm (by omega) (by decide)
  obtain ⟨u, m2, l2, hc2, e2, sm2, _⟩ := signs_st (most := 10) sm1 (by omega) (by decide)
  obtain ⟨i, j, f, m3, ij, jt, lf, cf, e3, sm3⟩ := cut_ok t (by omega) sm2 (by omega)
  have e1' : D__law_signs [.ref n, .int 10] m = .ok (.str (mk t)) m1 := e1
  have e2' : D__law_signs [.ref n, .int 10] m1 = .ok (.str (mk u)) m2 := e2
  have lt : t.length ≤ cap := by unfold cap; omega
  have lu : u.length ≤ cap := by unfold cap; omega
  have c1 := cut_pre t i (by omega)
  have c2 := cut_pre t j (by omega)
  have c3 := cut_suf t j (by omega)
  have c4 := cut_suf t i (by omega)
  have w3 := sm3.1
  have W : Wf (m3 ++ [Ob.lst []]) := wf_app w3 rfl
  refine ⟨some (.str (mk (t.take i ++ f ++ t.drop j))), some (.lst [.tup [.str (mk t), .str (mk u)], .tup [.str (mk t), .str (mk (t.take i ++ f ++ t.drop j))], .tup [.str (mk t), .str (mk (t.take j ++ t.drop i))], .tup [.str (mk u), .str (mk (t ++ u))], .tup [.str (mk t), .str (mk t)]]),
    some (.str (mk t)), some (.str (mk u)), some (.int i), some (.int j), some (.str (mk f)), m3, ?_, sm3.mono (by omega)⟩
  unfold B_law_3
  refine (seqS_nx (μ1 := [x0, x1, x2, x3, some (.ref n), x5, x6, x7, x8, some (.str (mk t)), some (.str (mk u)), x11, x12, x13, x14]) (m1 := m2) (by simp [runF, seqS, ifS, setS, retS, exprS, liftS, liftL, nextS, notB, isB, orB, andB, andE, orE, notE, DL.bin, DL.var, cst, callE, callF, callK, pick, consL, nilL, tupE, lstE, raiseS, asgS, gTp, gCn, gNm, gNl, ifE, methE, tyD, elems, items, R.bind_ok, R.bind_err, R.bind_bad, intF, addF, subF, geF, leF, gtF, ltF, lt2F, negE, negF, ixF, slE, someP, noP, slF, lenF, forS, loopS, itE, itT, itF, mthE, mthK, propE, noErr, fldE, fldF, fldAt, callOE, callOK, cmE, cmK, makeE, makeK, makeB, makeV, setFldS, setFldF, setAt, kindOf, onlyBl, parS, e1', e2'])).trans ?_
  refine (seqS_nx (μ1 := [x0, x1, x2, x3, some (.ref n), x5, x6, x7, x8, some (.str (mk t)), some (.str (mk u)), some (.int i), some (.int j), some (.str (mk f)), x14]) (m1 := m3) (by simp [runF, seqS, ifS, setS, retS, exprS, liftS, liftL, nextS, notB, isB, orB, andB, andE, orE, notE, DL.bin, DL.var, cst, callE, callF, callK, pick, consL, nilL, tupE, lstE, raiseS, asgS, gTp, gCn, gNm, gNl, ifE, methE, tyD, elems, items, R.bind_ok, R.bind_err, R.bind_bad, intF, addF, subF, geF, leF, gtF, ltF, lt2F, negE, negF, ixF, slE, someP, noP, slF, lenF, forS, loopS, itE, itT, itF, mthE, mthK, propE, noErr, fldE, fldF, fldAt, callOE, callOK, cmE, cmK, makeE, makeK, makeB, makeV, setFldS, setFldF, setAt, kindOf, onlyBl, e3])).trans ?_
  have k1 : min i t.length + f.length ≤ cap := by unfold cap; omega
  have k2 : min i t.length + f.length + (t.length - j) ≤ cap := by unfold cap; omega
  have k2' : min i t.length + (f.length + (t.length - j)) ≤ cap := by unfold cap; omega
  have k3 : min j t.length + (t.length - i) ≤ cap := by unfold cap; omega
  have k4 : t.length + u.length ≤ cap := by unfold cap; omega
  refine (seqS_nx (μ1 := [x0, x1, x2, x3, some (.ref n), x5, x6, some (.str (mk (t.take i ++ f ++ t.drop j))), x8, some (.str (mk t)), some (.str (mk u)), some (.int i), some (.int j), some (.str (mk f)), x14]) (m1 := m3) (by simp [runF, seqS, ifS, setS, retS, exprS, liftS, liftL, nextS, notB, isB, orB, andB, andE, orE, notE, DL.bin, DL.var, cst, callE, callF, callK, pick, consL, nilL, tupE, lstE, raiseS, asgS, gTp, gCn, gNm, gNl, ifE, methE, tyD, elems, items, R.bind_ok, R.bind_err, R.bind_bad, intF, addF, subF, geF, leF, gtF, ltF, lt2F, negE, negF, ixF, slE, someP, noP, slF, lenF, forS, loopS, itE, itT, itF, mthE, mthK, propE, noErr, fldE, fldF, fldAt, callOE, callOK, cmE, cmK, makeE, makeK, makeB, makeV, setFldS, setFldF, setAt, kindOf, onlyBl, lt, c1, c3, mk_app, k1, k2, k2'])).trans ?_
  refine (seqS_nx (μ1 := [x0, x1, x2, x3, some (.ref n), x5, x6, some (.str (mk (t.take i ++ f ++ t.drop j))), some (.lst [.tup [.str (mk t), .str (mk u)], .tup [.str (mk t), .str (mk (t.take i ++ f ++ t.drop j))], .tup [.str (mk t), .str (mk (t.take j ++ t.drop i))]]), some (.str (mk t)), some (.str (mk u)), some (.int i), some (.int j), some (.str (mk f)), x14]) (m1 := m3) (by simp [runF, seqS, ifS, setS, retS, exprS, liftS, liftL, nextS, notB, isB, orB, andB, andE, orE, notE, DL.bin, DL.var, cst, callE, callF, callK, pick, consL, nilL, tupE, lstE, raiseS, asgS, gTp, gCn, gNm, gNl, ifE, methE, tyD, elems, items, R.bind_ok, R.bind_err, R.bind_bad, intF, addF, subF, geF, leF, gtF, ltF, lt2F, negE, negF, ixF, slE, someP, noP, slF, lenF, forS, loopS, itE, itT, itF, mthE, mthK, propE, noErr, fldE, fldF, fldAt, callOE, callOK, cmE, cmK, makeE, makeK, makeB, makeV, setFldS, setFldF, setAt, kindOf, onlyBl, lt, c2, c4, mk_app, k3])).trans ?_
  have cp : (5 : Nat) ≤ cap := by decide
  refine (seqS_nx (μ1 := [x0, x1, x2, x3, some (.ref n), x5, x6, some (.str (mk (t.take i ++ f ++ t.drop j))), some (.lst [.tup [.str (mk t), .str (mk u)], .tup [.str (mk t), .str (mk (t.take i ++ f ++ t.drop j))], .tup [.str (mk t), .str (mk (t.take j ++ t.drop i))], .tup [.str (mk u), .str (mk (t ++ u))], .tup [.str (mk t), .str (mk t)]]), some (.str (mk t)), some (.str (mk u)), some (.int i), some (.int j), some (.str (mk f)), x14]) (m1 := m3) (by simp [runF, seqS, ifS, setS, retS, exprS, liftS, liftL, nextS, notB, isB, orB, andB, andE, orE, notE, DL.bin, DL.var, cst, callE, callF, callK, pick, consL, nilL, tupE, lstE, raiseS, asgS, gTp, gCn, gNm, gNl, ifE, methE, tyD, elems, items, R.bind_ok, R.bind_err, R.bind_bad, intF, addF, subF, geF, leF, gtF, ltF, lt2F, negE, negF, ixF, slE, someP, noP, slF, lenF, forS, loopS, itE, itT, itF, mthE, mthK, propE, noErr, fldE, fldF, fldAt, callOE, callOK, cmE, cmK, makeE, makeK, makeB, makeV, setFldS, setFldF, setAt, kindOf, onlyBl, mk_app, k4, cp])).trans ?_
  have key := fun (r : List (List Nat × List Nat)) (h : ∀ p ∈ r, p.1.length ≤ 40 ∧ p.2.length ≤ 40) (x7 x8 x9 x10 x11 x12 x13 : Option D) (ds : List D) (hd : x8 = some (.lst ds)) (e : ds = r.map fun p => .tup [.str (mk p.1), .str (mk p.2)]) =>
    lcE_no (vs := [14]) (f := itE itF (DL.var 8)) (g := gNm 14) (tt := T_law_2) (te := E_law_1) (μ := [x0, x1, x2, x3, some (.ref n), x5, x6, x7, x8, x9, x10, x11, x12, x13, x14]) (m := m3) (ds := ds) (by subst hd; rfl) (fun x hx => by
      subst e
      obtain ⟨p, hp, rfl⟩ := List.mem_map.mp hx
      have := right_ok p.1 p.2 (h p hp).1 (h p hp).2 _ W
      refine ⟨_, rfl, ?_⟩
      simp [T_law_2, wipeD, runF, seqS, ifS, setS, retS, exprS, liftS, liftL, nextS, notB, isB, orB, andB, andE, orE, notE, DL.bin, DL.var, cst, callE, callF, callK, pick, consL, nilL, tupE, lstE, raiseS, asgS, gTp, gCn, gNm, gNl, ifE, methE, tyD, elems, items, R.bind_ok, R.bind_err, R.bind_bad, intF, addF, subF, geF, leF, gtF, ltF, lt2F, negE, negF, ixF, slE, someP, noP, slF, lenF, forS, loopS, itE, itT, itF, mthE, mthK, propE, noErr, fldE, fldF, fldAt, callOE, callOK, cmE, cmK, makeE, makeK, makeB, makeV, setFldS, setFldF, setAt, kindOf, onlyBl, L2.atI, L2.ixN, this]) w3
  have lc := key [(t, u), (t, t.take i ++ f ++ t.drop j), (t, t.take j ++ t.drop i), (u, t ++ u), (t, t)] (fun p hp => by
    simp only [List.mem_cons, List.not_mem_nil, or_false] at hp
    rcases hp with rfl | rfl | rfl | rfl | rfl <;> simp <;> omega) (some (.str (mk (t.take i ++ f ++ t.drop j)))) _ (some (.str (mk t))) (some (.str (mk u))) (some (.int i)) (some (.int j)) (some (.str (mk f))) _ rfl rfl
  exact (ifS_f (isB_ok (bin_ok lc (by rfl) (ne_nil m3)))).trans rfl
theorem between_w {w : D} (h : ∀ m, D_need_text [w] m = .err 1 [.non] m) (x : D) (m : S) : D_Edit_between [.con (.ref 329), w, x] m = .err 1 [.non] m := by
  simp [D_Edit_between, F_Edit_between, runF, seqS, ifS, setS, retS, exprS, liftS, liftL, nextS, notB, isB, orB, andB, andE, orE, notE, DL.bin, DL.var, cst, callE, callF, callK, pick, consL, nilL, tupE, lstE, raiseS, asgS, gTp, gCn, gNm, gNl, ifE, methE, tyD, elems, items, R.bind_ok, R.bind_err, R.bind_bad, intF, addF, subF, geF, leF, gtF, ltF, lt2F, negE, negF, ixF, slE, someP, noP, slF, lenF, forS, loopS, itE, itT, itF, mthE, mthK, propE, noErr, fldE, fldF, fldAt, insOf, callOE, callOK, cmE, cmK, makeE, makeK, makeB, makeV, setFldS, setFldF, setAt, eqO, neO, kindOf, onlyBl, h]
theorem between_w2 {w : D} (h : ∀ m, D_need_text [w] m = .err 1 [.non] m) (t : List Nat) (m : S) : D_Edit_between [.con (.ref 329), .str (mk t), w] m = .err 1 [.non] m := by
  simp [D_Edit_between, F_Edit_between, runF, seqS, ifS, setS, retS, exprS, liftS, liftL, nextS, notB, isB, orB, andB, andE, orE, notE, DL.bin, DL.var, cst, callE, callF, callK, pick, consL, nilL, tupE, lstE, raiseS, asgS, gTp, gCn, gNm, gNl, ifE, methE, tyD, elems, items, R.bind_ok, R.bind_err, R.bind_bad, intF, addF, subF, geF, leF, gtF, ltF, lt2F, negE, negF, ixF, slE, someP, noP, slF, lenF, forS, loopS, itE, itT, itF, mthE, mthK, propE, noErr, fldE, fldF, fldAt, insOf, callOE, callOK, cmE, cmK, makeE, makeK, makeB, makeV, setFldS, setFldF, setAt, eqO, neO, kindOf, onlyBl, text_ok, h]
theorem refused_t (g : S → R D) (l : D) (m m1 : S) (h : g m = .err 1 [.non] m1) : D__law_refused g l m = .ok (.bl true) m1 := by
  rw [refused_err g l 1 [.non] m m1 h]
  simp [D__law_refused, F__law_refused, runF, seqS, exprS, liftS, cst, tryS, setS, actE, hdAs, hdN, goneO, HIT_BadText, attrE, TT, DL.bin, DL.var, isF, DL.isNon, retS]; try rfl
theorem item_ok (s x1 x4 x5 x6 x7 x8 x9 x10 x11 x12 x13 x14 : Option D) (z : Int) (k : Nat) (hk : k < 100) (m : S) (wf : Wf m) : ∃ y4 y5 y6 y7 y8 y9 y10 y11 y12 y13 m', B_law_4 [s, x1, some (.int k), some (.int z), x4, x5, x6, x7, x8, x9, x10, x11, x12, x13, x14] m = .nx [s, x1, some (.int k), some (.int z), y4, y5, y6, y7, y8, y9, y10, y11, y12, y13, x14] m' ∧ Wf m' := by
  have hs := stream_ok z k (by omega) (by omega) m
  generalize hm1 : m ++ [.lst [.int (if 1000000000000000000 ≤ z then z else 0), .int 0, .int (mixN z k)]] = m1 at hs
  have sm : Sm m.length 0 m1 := ⟨hm1 ▸ wf.snoc rfl, (if 1000000000000000000 ≤ z then z else 0), 0, mixN z k, by rw [← hm1]; simp, Int.le_refl _, Int.le_refl _⟩
  obtain ⟨a7, a8, a9, a10, a11, a12, a13, m2, e1, sm1⟩ := turn_ok sm (by omega) s x1 (some (.int k)) (some (.int z)) (some (.int (0 : Nat))) x6 x7 x8 x9 x10 x11 x12 x13 x14
  obtain ⟨b7, b8, b9, b10, b11, b12, b13, m3, e2, sm2⟩ := turn_ok sm1 (by omega) s x1 (some (.int k)) (some (.int z)) (some (.int (1 : Nat))) x6 a7 a8 a9 a10 a11 a12 a13 x14
  obtain ⟨w, hw, m4, e3, sm3, _⟩ := pick_st (ds := wrongs) sm2 (by omega) (by decide) (by decide)
  have HW := wrong_no w hw
  have q1 := fun m => between_w HW w m
  have q2 := fun m => between_w2 HW [97] m
  have s97 : ("a" : Str) = mk [97] := rfl
  unfold wrongs at e3
  refine ⟨some (.ref m.length), some (.int (1 : Nat)), some w, b7, b8, b9, b10, b11, b12, b13, m4, ?_, sm3.1⟩
  unfold B_law_4
  refine (seqS_nx (setS_ok (callF_ok (ds := [.int z, .int k]) rfl hs))).trans ?_
  refine (seqS_nx ((forS_ok (ds := [.int (0 : Nat), .int (1 : Nat)]) rfl).trans ((loop_cons rfl e1).trans ((loop_cons rfl e2).trans rfl)))).trans ?_
  refine (seqS_nx (μ1 := [s, x1, some (.int k), some (.int z), some (.ref m.length), some (.int (1 : Nat)), some w, b7, b8, b9, b10, b11, b12, b13, x14]) (m1 := m4) (by simp [runF, seqS, ifS, setS, retS, exprS, liftS, liftL, nextS, notB, isB, orB, andB, andE, orE, notE, DL.bin, DL.var, cst, callE, callF, callK, pick, consL, nilL, tupE, lstE, raiseS, asgS, gTp, gCn, gNm, gNl, ifE, methE, tyD, elems, items, R.bind_ok, R.bind_err, R.bind_bad, intF, addF, subF, geF, leF, gtF, ltF, lt2F, negE, negF, ixF, slE, someP, noP, slF, lenF, forS, loopS, itE, itT, itF, mthE, mthK, propE, noErr, fldE, fldF, fldAt, callOE, callOK, cmE, cmK, makeE, makeK, makeB, makeV, setFldS, setFldF, setAt, kindOf, onlyBl, dic0E, e3])).trans ?_
  have t1 : lamF D__law_refused (cmE 329 D_Edit_between (consL (DL.var 6) (consL (DL.var 6) nilL))) [s, x1, some (.int k), some (.int z), some (.ref m.length), some (.int (1 : Nat)), some w, b7, b8, b9, b10, b11, b12, b13, x14] m4 = .ok (.bl true) m4 := by
    unfold lamF
    exact refused_t _ _ _ _ (by simp [runF, seqS, ifS, setS, retS, exprS, liftS, liftL, nextS, notB, isB, orB, andB, andE, orE, notE, DL.bin, DL.var, cst, callE, callF, callK, pick, consL, nilL, tupE, lstE, raiseS, asgS, gTp, gCn, gNm, gNl, ifE, methE, tyD, elems, items, R.bind_ok, R.bind_err, R.bind_bad, intF, addF, subF, geF, leF, gtF, ltF, lt2F, negE, negF, ixF, slE, someP, noP, slF, lenF, forS, loopS, itE, itT, itF, mthE, mthK, propE, noErr, fldE, fldF, fldAt, callOE, callOK, cmE, cmK, makeE, makeK, makeB, makeV, setFldS, setFldF, setAt, kindOf, onlyBl, q1])
  have t2 : lamF D__law_refused (cmE 329 D_Edit_between (consL (cst (.str "a")) (consL (DL.var 6) nilL))) [s, x1, some (.int k), some (.int z), some (.ref m.length), some (.int (1 : Nat)), some w, b7, b8, b9, b10, b11, b12, b13, x14] m4 = .ok (.bl true) m4 := by
    unfold lamF
    exact refused_t _ _ _ _ (by simp [runF, seqS, ifS, setS, retS, exprS, liftS, liftL, nextS, notB, isB, orB, andB, andE, orE, notE, DL.bin, DL.var, cst, callE, callF, callK, pick, consL, nilL, tupE, lstE, raiseS, asgS, gTp, gCn, gNm, gNl, ifE, methE, tyD, elems, items, R.bind_ok, R.bind_err, R.bind_bad, intF, addF, subF, geF, leF, gtF, ltF, lt2F, negE, negF, ixF, slE, someP, noP, slF, lenF, forS, loopS, itE, itT, itF, mthE, mthK, propE, noErr, fldE, fldF, fldAt, callOE, callOK, cmE, cmK, makeE, makeK, makeB, makeV, setFldS, setFldF, setAt, kindOf, onlyBl, s97, q2])
  refine (seqS_nx (ifS_f (notB_t (isB_ok t1)))).trans ?_
  exact (ifS_f (notB_t (isB_ok t2))).trans rfl
theorem law_ok (ns : List Int) (h : ns.length ≤ 63) : ∃ m, D_law [.scr (ns.map .int)] [] = .ok (.bl true) m := by
  have hl : (ns.map D.int).length + 1 ≤ cap := by rw [List.length_map]; unfold cap; omega
  have h1 : ns.length + 1 ≤ cap := by unfold cap; omega
  have e1 : (enumF (consL (slE (DL.bin addF (DL.var 0) (lstE (consL (cst (.int 0)) nilL))) noP (someP (cst (.int 8)))) nilL)) [some (D.scr (ns.map D.int)), none, none, none, none, none, none, none, none, none, none, none, none, none, none] [] = .ok (enumD (cutD (ns.map D.int ++ [D.int 0]) none (some 8))) [] := by
    simp [enumF, slE, DL.bin, DL.var, cst, lstE, consL, nilL, addF, elems, hl, noP, someP, slF, itF, h1]
  obtain ⟨μ2, m2, e2, hμ, wf2⟩ := loop_inv (g := gTp 2 (gCn (gNm 2) (gCn (gNm 3) gNl))) (b := B_law_4) (fun μ m => (∃ s x1 x2 x3 x4 x5 x6 x7 x8 x9 x10 x11 x12 x13 x14, μ = [s, x1, x2, x3, x4, x5, x6, x7, x8, x9, x10, x11, x12, x13, x14]) ∧ Wf m) (enumD (cutD (ns.map D.int ++ [D.int 0]) none (some 8))) [some (D.scr (ns.map D.int)), none, none, none, none, none, none, none, none, none, none, none, none, none, none] [] ⟨⟨_, _, _, _, _, _, _, _, _, _, _, _, _, _, _, rfl⟩, Wf.nil⟩ (by
    rintro x hx μ m ⟨⟨s, x1, x2, x3, x4, x5, x6, x7, x8, x9, x10, x11, x12, x13, x14, rfl⟩, wf⟩
    obtain ⟨i, d, rfl, hd, _, hi⟩ := enumG_mem hx
    have hi2 : i < 100 := by
      have : (cutD (ns.map D.int ++ [D.int 0]) none (some 8)).length ≤ (ns.map D.int ++ [D.int 0]).length := by unfold cutD; rw [List.length_take, List.length_drop]; omega
      rw [List.length_append, List.length_map] at this
      simp at this hi
      omega
    have hd2 : ∃ n : Int, d = .int n := by
      have := cutD_mem hd
      rw [List.mem_append, List.mem_map, List.mem_singleton] at this
      rcases this with ⟨n, _, e⟩ | e
      · exact ⟨n, e.symm⟩
      · exact ⟨0, e⟩
    obtain ⟨n, rfl⟩ := hd2
    obtain ⟨y4, y5, y6, y7, y8, y9, y10, y11, y12, y13, m', e, wf'⟩ := item_ok s x1 x4 x5 x6 x7 x8 x9 x10 x11 x12 x13 x14 n i hi2 m wf
    exact ⟨_, rfl, _, m', e, ⟨_, _, _, _, _, _, _, _, _, _, _, _, _, _, _, rfl⟩, wf'⟩)
  obtain ⟨s, x1, x2, x3, x4, x5, x6, x7, x8, x9, x10, x11, x12, x13, x14, rfl⟩ := hμ
  have s1 : ("" : Str) = mk [] := by rfl
  have s2 : ("aa" : Str) = mk [97, 97] := by rfl
  have s3 : ("aaa" : Str) = mk [97, 97, 97] := by rfl
  have s4 : ("a" : Str) = mk [97] := by rfl
  have k1 := between_ok [97, 97] [97, 97, 97] (by decide) (by decide) m2 wf2
  have k2 := between_ok [] [] (by decide) (by decide) m2 wf2
  have g1 : chg [97, 97] [97, 97, 97] = ed (0, 2) (0, 2) [97] := by rfl
  have g2 : chg [] [] = ed (0, 0) (0, 0) [] := by rfl
  rw [g1] at k1
  rw [g2] at k2
  have k3 := ed_ok (0, 0) (0, 0) [] (by unfold ltP; simp) m2 wf2
  have l1 := low_ok (0, 2) (0, 2) [97] m2
  have l2 := high_ok (0, 2) (0, 2) [97] m2
  have l3 := fresh_ok (0, 2) (0, 2) [97] m2
  have e0 := eo_ed (0, 0) (0, 0) (0, 0) (0, 0) [] [] m2
  have z97 : okD 1 (.str (mk [97])) = true := okD_str (by decide)
  have n0 : neO TT disp___eq__ (oksB [4] EQT) (.lst [pos 0 2, pos 0 2, .str (mk [97])]) (.lst [pos 0 2, pos 0 2, .str (mk [97])]) m2 = .ok (.bl false) m2 := (show neF (.lst [pos 0 2, pos 0 2, .str (mk [97])]) (.lst [pos 0 2, pos 0 2, .str (mk [97])]) m2 = .ok (.bl false) m2 from ne_self (k := 2) (by simp only [okD, okDs, pos] at z97 ⊢; simp only [z97, Bool.and_self]) (by decide) m2)
  refine ⟨m2, runF_ret ?_⟩
  show F_law [some (D.scr (ns.map D.int)), none, none, none, none, none, none, none, none, none, none, none, none, none, none] [] = _
  unfold F_law
  refine (seqS_nx (f := forS (enumF (consL (slE (DL.bin addF (DL.var 0) (lstE (consL (cst (.int 0)) nilL))) noP (someP (cst (.int 8)))) nilL)) (gTp 2 (gCn (gNm 2) (gCn (gNm 3) gNl))) B_law_4) ((forS_ok e1).trans e2)).trans ?_
  refine (seqS_nx (μ1 := [s, some (ed (0, 2) (0, 2) [97]), x2, x3, x4, x5, x6, x7, x8, x9, x10, x11, x12, x13, x14]) (m1 := m2) (by simp [runF, seqS, ifS, setS, retS, exprS, liftS, liftL, nextS, notB, isB, orB, andB, andE, orE, notE, DL.bin, DL.var, cst, callE, callF, callK, pick, consL, nilL, tupE, lstE, raiseS, asgS, gTp, gCn, gNm, gNl, ifE, methE, tyD, elems, items, R.bind_ok, R.bind_err, R.bind_bad, intF, addF, subF, geF, leF, gtF, ltF, lt2F, negE, negF, ixF, slE, someP, noP, slF, lenF, forS, loopS, itE, itT, itF, mthE, mthK, propE, noErr, fldE, fldF, fldAt, callOE, callOK, cmE, cmK, makeE, makeK, makeB, makeV, setFldS, setFldF, setAt, kindOf, onlyBl, s2, s3, k1])).trans ?_
  refine (seqS_nx (μ1 := [s, some (ed (0, 2) (0, 2) [97]), x2, x3, x4, x5, x6, x7, x8, x9, x10, x11, x12, x13, x14]) (m1 := m2) (by
    have e : lstE (consL (propE disp_low (DL.var 1)) (consL (propE disp_high (DL.var 1)) (consL (propE disp_fresh (DL.var 1)) nilL))) [s, some (ed (0, 2) (0, 2) [97]), x2, x3, x4, x5, x6, x7, x8, x9, x10, x11, x12, x13, x14] m2 = .ok (.lst [pos 0 2, pos 0 2, .str (mk [97])]) m2 := by
      rw [ed_def] at l1 l2 l3 ⊢
      simp [runF, seqS, ifS, setS, retS, exprS, liftS, liftL, nextS, notB, isB, orB, andB, andE, orE, notE, DL.bin, DL.var, cst, callE, callF, callK, pick, consL, nilL, tupE, lstE, raiseS, asgS, gTp, gCn, gNm, gNl, ifE, methE, tyD, elems, items, R.bind_ok, R.bind_err, R.bind_bad, intF, addF, subF, geF, leF, gtF, ltF, lt2F, negE, negF, ixF, slE, someP, noP, slF, lenF, forS, loopS, itE, itT, itF, mthE, mthK, propE, noErr, fldE, fldF, fldAt, insOf, callOE, callOK, cmE, cmK, makeE, makeK, makeB, makeV, setFldS, setFldF, setAt, eqO, neO, kindOf, onlyBl, disp_low, disp_high, disp_fresh, l1, l2, l3]
    exact (ifS_f (isB_ok (bin_ok e (by rfl) n0))).trans rfl)).trans ?_
  refine retS_ok ?_
  have e5 : cmE 329 D_Edit_between (consL (cst (.str "")) (consL (cst (.str "")) nilL)) [s, some (ed (0, 2) (0, 2) [97]), x2, x3, x4, x5, x6, x7, x8, x9, x10, x11, x12, x13, x14] m2 = .ok (ed (0, 0) (0, 0) []) m2 := by
    simp [runF, seqS, ifS, setS, retS, exprS, liftS, liftL, nextS, notB, isB, orB, andB, andE, orE, notE, DL.bin, DL.var, cst, callE, callF, callK, pick, consL, nilL, tupE, lstE, raiseS, asgS, gTp, gCn, gNm, gNl, ifE, methE, tyD, elems, items, R.bind_ok, R.bind_err, R.bind_bad, intF, addF, subF, geF, leF, gtF, ltF, lt2F, negE, negF, ixF, slE, someP, noP, slF, lenF, forS, loopS, itE, itT, itF, mthE, mthK, propE, noErr, fldE, fldF, fldAt, callOE, callOK, cmE, cmK, makeE, makeK, makeB, makeV, setFldS, setFldF, setAt, kindOf, onlyBl, s1, k2]
  have e6 : makeE true 4 D_Edit___init__ (consL (tupE (consL (cst (.int 0)) (consL (cst (.int 0)) nilL))) (consL (tupE (consL (cst (.int 0)) (consL (cst (.int 0)) nilL))) (consL (cst (.str "")) nilL))) [s, some (ed (0, 2) (0, 2) [97]), x2, x3, x4, x5, x6, x7, x8, x9, x10, x11, x12, x13, x14] m2 = .ok (ed (0, 0) (0, 0) []) m2 := by
    simp [pos] at k3
    simp [runF, seqS, ifS, setS, retS, exprS, liftS, liftL, nextS, notB, isB, orB, andB, andE, orE, notE, DL.bin, DL.var, cst, callE, callF, callK, pick, consL, nilL, tupE, lstE, raiseS, asgS, gTp, gCn, gNm, gNl, ifE, methE, tyD, elems, items, R.bind_ok, R.bind_err, R.bind_bad, intF, addF, subF, geF, leF, gtF, ltF, lt2F, negE, negF, ixF, slE, someP, noP, slF, lenF, forS, loopS, itE, itT, itF, mthE, mthK, propE, noErr, fldE, fldF, fldAt, callOE, callOK, cmE, cmK, makeE, makeK, makeB, makeV, setFldS, setFldF, setAt, kindOf, onlyBl, s1, k3]
  exact bin_ok e5 e6 (by simpa using e0)
end L07
end

section
open PySem PySem.W PyProof.Rows
set_option Elab.async false
set_option maxRecDepth 100000
set_option maxHeartbeats 0
theorem PySem.Challenge.cw_mapstack_k07_whole_changes_between_texts_holds : PySem.Challenge.rw_mapstack_k07_whole_changes_between_texts.Holds := by
  refine head1 ?_
  k_fill
  have mem : ∀ p ∈ L07.CSP, p = (403, 401) := fun p hp => by simpa [L07.CSP] using hp
  exact DL.walk_g (l := PySem.Challenge.rw_mapstack_k07_whole_changes_between_texts) (n := 63) (k := 14) (x := "script") (K := KY) (T := L07.TT) (F := L07.D_law) L07.CSP rfl (by decide) rfl ⟨⟨rfl, by decide, by decide⟩, rfl⟩ (fun w h Y => ⟨km_in_of Y, fun p hp => km_tabs_of Y p.2 (by
      rcases mem p hp with rfl <;> simp)⟩) (fun w => by kernel_rfl)
    (fun w p hp => by rcases mem p hp with rfl <;> kernel_rfl) (fun w h KX p hp => by rcases mem p hp with rfl <;> exact codeHd_of_K KX (by kernel_rfl))
    (fun q hq => (by simp [L07.TT, L07.CSP] : ∀ q ∈ L07.TT.tabs, ∃ p ∈ L07.CSP, p.2 = q.1) q hq) (fun w mg base M TB => L07.fn_law w mg base M TB) (fun ns h _ => L07.law_ok ns h)
end
