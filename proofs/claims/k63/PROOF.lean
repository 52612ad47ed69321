import PyProof.Rows.All
import Wide.All
import OpenK.AllK
import Wide.FinOn
import HandS.ForMost
import HandS.Exc
import HandS.ExcInit
import HandS.IsInst
import HandS.ExcOwn
import HandS.TupAny
import HandS.TupMul
import HandS.Dict
import KE.KDictKeyed
import HandS.Deep
import HandS.Walk
import KE.GoesEnum
import PyProof.ReprRoads
import HandS.EndBits
import HandS.More
import HandS.SortInts
import KE.KExcIs
import HandS.ExcIs
import KE.KDictDisplayH
import HandS.RevTup
import HandS.Rev
import PyProof.ListNew
import KE.KTupSum
import HandS.SortOrd
import PyProof.Rows.SortKeyStr
import HandS.Codes
import HandS.Iter
import HandS.Text
import HandS.RaiseMore
import HandS.Conv
import HandS.ExcValue
import PyProof.StrBlock2
import PySem.Challenge.RW_farend_k63_wrong_texts_of_jobs
set_option Elab.async false
set_option linter.all false
set_option maxRecDepth 100000
/-! By value: what a program's parts compute, told of plain data. -/
namespace Bv
open PySem PySem.Spec L2 PyProof.Rows

abbrev D := PyData
/-- the world of a text: the program, the world, the written part -/
structure Cz where
  P : Program
  w : World
  K : PySem.W.Frag
  mg : Str → Option Value
abbrev cz (X : Cx) : Cz := ⟨X.prog, X.w, X.K, X.mg⟩

/-! ### heaps that grow, heaps of which a part is hidden -/
def Gr (H H' : Hp) : Prop := ∀ a o, H a = some o → H' a = some o
theorem Gr.refl (H : Hp) : Gr H H := fun _ _ h => h
theorem Gr.trans {H H1 H2 : Hp} (a : Gr H H1) (b : Gr H1 H2) : Gr H H2 := fun x o h => b x o (a x o h)
theorem Gr.free {H H' : Hp} (e : Gr H H') {p : Addr} (h : H' p = none) : H p = none := by
  cases q : H p with
  | none => rfl
  | some o => rw [e p o q] at h; cases h
theorem Gr.new {H : Hp} {p : Addr} {o : HO} (h : H p = none) : Gr H (upd H p o) := fun a u e => by
  rw [upd_ne (ne_of_none e h)]; exact e
theorem Gr.mut {H H' : Hp} {p : Addr} {o : HO} (e : Gr H H') (h : H p = none) : Gr H (upd H' p o) := fun a u q => by
  rw [upd_ne (ne_of_none q h)]; exact e a u q
open Classical in
noncomputable def hid (H : Hp) (Z : Addr → Prop) : Hp := fun a => if Z a then none else H a
theorem hid_no {H : Hp} {Z : Addr → Prop} {a : Addr} (h : ¬ Z a) : hid H Z a = H a := if_neg h
theorem hid_yes {H : Hp} {Z : Addr → Prop} {a : Addr} (h : Z a) : hid H Z a = none := if_pos h
theorem hid_some {H : Hp} {Z : Addr → Prop} {a : Addr} {o : HO} (h : hid H Z a = some o) : ¬ Z a ∧ H a = some o := by
  by_cases z : Z a
  · rw [hid_yes z] at h; cases h
  · rw [hid_no z] at h; exact ⟨z, h⟩
theorem Gr.hid_le (H : Hp) (Z : Addr → Prop) : Gr (hid H Z) H := fun _ _ h => (hid_some h).2
theorem Gr.hid {H H' : Hp} (e : Gr H H') (Z : Addr → Prop) : Gr (Bv.hid H Z) (Bv.hid H' Z) := fun a o h => by
  obtain ⟨z, q⟩ := hid_some h
  rw [hid_no z]; exact e a o q
theorem Gr.hid2 {H H' : Hp} {Z Z' : Addr → Prop} (e : Gr H H') (hz : ∀ a, Z' a → Z a) : Gr (Bv.hid H Z) (Bv.hid H' Z') := fun a o h => by
  obtain ⟨z, q⟩ := hid_some h
  rw [hid_no fun y => z (hz a y)]; exact e a o q
/-- the hidden stands -/
def In (Z : Addr → Prop) (H : Hp) : Prop := ∀ a, Z a → H a ≠ none
theorem In.gr {Z : Addr → Prop} {H H' : Hp} (z : In Z H) (e : Gr H H') : In Z H' := fun a h n => z a h (e.free n)
theorem In.not {Z : Addr → Prop} {H : Hp} (z : In Z H) {p : Addr} (h : H p = none) : ¬ Z p := fun y => z p y h
theorem hid_new {H : Hp} {Z : Addr → Prop} {p : Addr} {o : HO} (z : In Z H) (h : H p = none) : hid (upd H p o) Z p = some o := by
  rw [hid_no (z.not h), upd_same]
theorem Gr.rd {H H' : Hp} {a : Addr} {u : HO} (e : Gr H H') (h : Rd H a u) : Rd H' a u := h.imp (fun q => e _ _ q) fun ⟨o, q⟩ => ⟨o, e _ _ q⟩
/-- a list, tracked or one that the text's top has written -/
def RdL (K : PySem.W.Frag) (H : Hp) (a : Addr) (xs : List V) : Prop :=
  Rd H a (.lst xs) ∨ ∃ (its : List Value) (n : Nat), K.lookup a = some { cls := .type "list", data := .seq its.toArray n } ∧ Vals xs its ∧ xs.length ≤ sizeLine
theorem RdL.sq {K : PySem.W.Frag} {H : Hp} {a : Addr} {xs : List V} (h : RdL K H a xs) : SqL K H a xs :=
  h.imp id fun ⟨its, n, e, r, z⟩ => ⟨_, its.toArray, n, e, rfl, rfl, rfl, by rw [List.size_toArray, ← r.length]; exact z, by simpa using r⟩
theorem Gr.rdl {K : PySem.W.Frag} {H H' : Hp} {a : Addr} {xs : List V} (e : Gr H H') (h : RdL K H a xs) : RdL K H' a xs := h.imp (fun q => e.rd q) id
theorem Gr.sqL {K : PySem.W.Frag} {H H' : Hp} {a : Addr} {xs : List V} (e : Gr H H') (h : SqL K H a xs) : SqL K H' a xs := h.imp (fun q => e.rd q) id
theorem Gr.sqT {K : PySem.W.Frag} {H H' : Hp} {a : Addr} {xs : List V} (e : Gr H H') (h : SqT K H a xs) : SqT K H' a xs := h.imp (fun q => e.rd q) id

/-! ### data -/
/-- an object known to the sign -/
def rawO (a : Addr) (o : Obj) : HO := .ext fun h => h.get? a = some o
/-- an exception's object: its class, its own dict -/
def rawE (a C : Addr) (dx : Option Addr) : HO := .ext fun h => ∃ (oe : Obj) (vs : Array Value), h.get? a = some oe ∧ Zc (.ref C) dx oe ∧ oe.data = .fields vs
/- data as a key: whole numbers, truths, texts, None, tuples of such -/
mutual
def nkey : D → Option NestedKey
  | .none => some .none
  | .bool b => some (.num (if b = true then 1 else 0))
  | .int i => some (.num i)
  | .str x => some (.text x)
  | .tuple ds => (nkeys ds).map .tup
  | .list _ => none
  | .dict _ => none
def nkeys : List D → Option (List NestedKey)
  | [] => some []
  | d :: ds => (nkey d).bind fun k => (nkeys ds).map (k :: ·)
end
/-- .. not deeper than the model asks -/
def dkey (d : D) : Option NestedKey := (nkey d).bind fun k => if k.depth ≤ 8 then some k else none
/-- what the object of a dict with tuples for keys says: key, the key's tuple, value -/
structure DN (c : Cz) (a : Addr) (o : Obj) (xs : List (NestedKey × Addr × V)) : Prop where
  sm : (a == sysModules) = false
  ed : o.ExactDict
  nd : (xs.map (·.1)).Nodup
  en : ∃ (es : Array DictEntry) (ep : Nat) (us : List (NestedKey × Addr × Value)), o.data = .dict es ep ∧ Paired (fun (x : NestedKey × Addr × V) (u : NestedKey × Addr × Value) => x.1 = u.1 ∧ x.2.1 = u.2.1 ∧ RelV x.2.2 u.2.2) xs us ∧ es.toList = us.map (entryOfKey (nestedKind c.P c.w))
/-- a key of a dict of whole numbers and texts, as data -/
def kD : Key → D
  | .inl i => .int i
  | .inr x => .str x
/-- the marks ahead of a dict's entries: keys are whole numbers and texts; keys are tuples -/
abbrev mK : D × D := (.none, .int 0)
abbrev mN : D × D := (.none, .int 1)
mutual
inductive Rp (c : Cz) (H : Hp) : V → D → Prop
  | non : Rp c H .non .none
  | bl (b : Bool) : Rp c H (.bl b) (.bool b)
  | int (i : Int) : Rp c H (.int i) (.int i)
  | str (x : Str) : Rp c H (.str x) (.str x)
  | lst {a : Addr} {xs : List V} {ds : List D} : RdL c.K H a xs → RpA c H xs ds → Rp c H (.ref a) (.list ds)
  | tup {a : Addr} {xs : List V} {ds : List D} : SqT c.K H a xs → RpA c H xs ds → Rp c H (.ref a) (.tuple ds)
  | dctK {a : Addr} {kvs : List (Key × V)} {ds : List (D × D)} : Rd H a (.dK kvs) → RpK c H kvs ds → Rp c H (.ref a) (.dict ((.none, .int 0) :: ds))
  | dctN {a : Addr} {o : Obj} {xs : List (NestedKey × Addr × V)} {ds : List (D × D)} : H a = some (rawO a o) → DN c a o xs → RpN c H xs ds → Rp c H (.ref a) (.dict ((.none, .int 1) :: ds))
  | exc0 {a C : Addr} {cls : Str} : H a = some (rawE a C none) → c.mg cls = some (.ref C) → Rp c H (.ref a) (.dict ((.none, .str cls) :: []))
  | exc1 {a C dd : Addr} {cls f : Str} {v : V} {d : D} : H a = some (rawE a C (some dd)) → c.mg cls = some (.ref C) → H dd = some (.xd [(f, v)]) → Rp c H v d → Rp c H (.ref a) (.dict ((.none, .str cls) :: (.str f, d) :: []))
inductive RpA (c : Cz) (H : Hp) : List V → List D → Prop
  | nil : RpA c H [] []
  | cons {v : V} {vs : List V} {d : D} {ds : List D} : Rp c H v d → RpA c H vs ds → RpA c H (v :: vs) (d :: ds)
inductive RpK (c : Cz) (H : Hp) : List (Key × V) → List (D × D) → Prop
  | nil : RpK c H [] []
  | cons {k : Key} {v : V} {vs : List (Key × V)} {d : D} {ds : List (D × D)} : Rp c H v d → RpK c H vs ds → RpK c H ((k, v) :: vs) ((kD k, d) :: ds)
inductive RpN (c : Cz) (H : Hp) : List (NestedKey × Addr × V) → List (D × D) → Prop
  | nil : RpN c H [] []
  | cons {k : NestedKey} {b : Addr} {v : V} {vs : List (NestedKey × Addr × V)} {e d : D} {ds : List (D × D)} : Rp c H (.ref b) e → dkey e = some k → Rp c H v d → RpN c H vs ds → RpN c H ((k, b, v) :: vs) ((e, d) :: ds)
end
section
variable {c : Cz} {H H' : Hp}
mutual
theorem Rp.gr (e : Gr H H') : ∀ {d : D} {v : V}, Rp c H v d → Rp c H' v d
  | .none, _, h => by cases h; exact .non
  | .bool b, _, h => by cases h; exact .bl b
  | .int i, _, h => by cases h; exact .int i
  | .str x, _, h => by cases h; exact .str x
  | .list ds, _, h => by
    cases h with
    | lst h1 h2 => exact .lst (e.rdl h1) (RpA.gr e h2)
  | .tuple ds, _, h => by
    cases h with
    | tup h1 h2 => exact .tup (e.sqT h1) (RpA.gr e h2)
  | .dict [], _, h => by cases h
  | .dict ((m1, m2) :: ds), _, h => by
    cases h with
    | dctK h1 h2 => exact .dctK (e.rd h1) (RpK.gr e h2)
    | dctN h1 h2 h3 => exact .dctN (e _ _ h1) h2 (RpN.gr e h3)
    | exc0 h1 h2 => exact .exc0 (e _ _ h1) h2
    | exc1 h1 h2 h3 h4 => exact .exc1 (e _ _ h1) h2 (e _ _ h3) (Rp.gr e h4)
theorem RpA.gr (e : Gr H H') : ∀ {ds : List D} {vs : List V}, RpA c H vs ds → RpA c H' vs ds
  | [], _, h => by cases h; exact .nil
  | d :: ds, _, h => by
    cases h with
    | cons h1 h2 => exact .cons (Rp.gr e h1) (RpA.gr e h2)
theorem RpK.gr (e : Gr H H') : ∀ {ds : List (D × D)} {vs : List (Key × V)}, RpK c H vs ds → RpK c H' vs ds
  | [], _, h => by cases h; exact .nil
  | (d, d') :: ds, _, h => by
    cases h with
    | cons h1 h2 => exact .cons (Rp.gr e h1) (RpK.gr e h2)
theorem RpN.gr (e : Gr H H') : ∀ {ds : List (D × D)} {vs : List (NestedKey × Addr × V)}, RpN c H vs ds → RpN c H' vs ds
  | [], _, h => by cases h; exact .nil
  | (d, d') :: ds, _, h => by
    cases h with
    | cons h1 h2 h3 h4 => exact .cons (Rp.gr e h1) h2 (Rp.gr e h3) (RpN.gr e h4)
end
/-- no tuple -/
def NotT (o : Option HO) : Prop := ∀ xs, o ≠ some (.tup xs) ∧ ∀ ob, o ≠ some (.frz ob (.tup xs))
/- nothing that may change within -/
mutual
def imm : D → Bool
  | .list _ => false
  | .dict _ => false
  | .tuple ds => immA ds
  | .none => true
  | .bool _ => true
  | .int _ => true
  | .str _ => true
def immA : List D → Bool
  | [] => true
  | d :: ds => imm d && immA ds
end
/- what can't change needs no list, no dict -/
mutual
theorem Rp.un {Z Z' : Addr → Prop} (h : ∀ a, Z' a → Z a ∨ NotT (H a)) : ∀ {d : D} {v : V}, imm d = true → Rp c (hid H Z) v d → Rp c (hid H Z') v d
  | .none, _, _, r => by cases r; exact .non
  | .bool b, _, _, r => by cases r; exact .bl b
  | .int i, _, _, r => by cases r; exact .int i
  | .str x, _, _, r => by cases r; exact .str x
  | .list ds, _, i, r => by simp [imm] at i
  | .dict ds, _, i, r => by simp [imm] at i
  | .tuple ds, _, i, r => by
    cases r with
    | @tup a xs _ h1 h2 =>
      refine .tup ?_ (RpA.un h (by simpa [imm] using i) h2)
      have key : ∀ o, ¬ NotT (some o) → hid H Z a = some o → hid H Z' a = some o := fun o ho q => by
        obtain ⟨z, q⟩ := hid_some q
        rw [hid_no fun y => (h a y).elim z fun w => ho (by rw [← q]; exact w)]
        exact q
      rcases h1 with (q | ⟨o, q⟩) | q
      · exact .inl (.inl (key _ (fun w => (w xs).1 rfl) q))
      · exact .inl (.inr ⟨o, key _ (fun w => (w xs).2 o rfl) q⟩)
      · exact .inr q
theorem RpA.un {Z Z' : Addr → Prop} (h : ∀ a, Z' a → Z a ∨ NotT (H a)) : ∀ {ds : List D} {vs : List V}, immA ds = true → RpA c (hid H Z) vs ds → RpA c (hid H Z') vs ds
  | [], _, _, r => by cases r; exact .nil
  | d :: ds, _, i, r => by
    rw [immA, Bool.and_eq_true] at i
    cases r with
    | cons h1 h2 => exact .cons (Rp.un h i.1 h1) (RpA.un h i.2 h2)
end
theorem RpA.length : ∀ {ds : List D} {vs : List V}, RpA c H vs ds → vs.length = ds.length
  | [], _, h => by cases h; rfl
  | d :: ds, _, h => by
    cases h with
    | cons h1 h2 => simp [RpA.length h2]
theorem RpA.get : ∀ {ds : List D} {vs : List V} {i : Nat} {d : D}, RpA c H vs ds → ds[i]? = some d → ∃ v, vs[i]? = some v ∧ Rp c H v d
  | [], _, i, d, h, e => by simp at e
  | x :: ds, _, i, d, h, e => by
    cases h with
    | cons h1 h2 =>
      cases i with
      | zero => simp at e; subst e; exact ⟨_, rfl, h1⟩
      | succ i =>
        obtain ⟨v, q, r⟩ := RpA.get (i := i) h2 (by simpa using e)
        exact ⟨v, by simpa using q, r⟩
theorem RpA.got : ∀ {ds : List D} {vs : List V} {i : Nat} {v : V}, RpA c H vs ds → vs[i]? = some v → ∃ d, ds[i]? = some d ∧ Rp c H v d
  | [], _, i, v, h, e => by cases h; simp at e
  | x :: ds, _, i, v, h, e => by
    cases h with
    | cons h1 h2 =>
      cases i with
      | zero => simp at e; subst e; exact ⟨_, rfl, h1⟩
      | succ i =>
        obtain ⟨d, q, r⟩ := RpA.got (i := i) h2 (by simpa using e)
        exact ⟨d, by simpa using q, r⟩
theorem RpA.append : ∀ {ds es : List D} {vs ws : List V}, RpA c H vs ds → RpA c H ws es → RpA c H (vs ++ ws) (ds ++ es)
  | [], _, _, _, h, g => by cases h; exact g
  | d :: ds, _, _, _, h, g => by
    cases h with
    | cons h1 h2 => exact .cons h1 (RpA.append h2 g)
theorem RpA.take : ∀ {ds : List D} {vs : List V} (n : Nat), RpA c H vs ds → RpA c H (vs.take n) (ds.take n)
  | ds, _, 0, h => by simp; exact .nil
  | [], _, n + 1, h => by cases h; exact .nil
  | d :: ds, _, n + 1, h => by
    cases h with
    | cons h1 h2 => exact .cons h1 (RpA.take n h2)
theorem RpA.drop : ∀ {ds : List D} {vs : List V} (n : Nat), RpA c H vs ds → RpA c H (vs.drop n) (ds.drop n)
  | ds, _, 0, h => h
  | [], _, n + 1, h => by cases h; exact .nil
  | d :: ds, _, n + 1, h => by
    cases h with
    | cons h1 h2 => exact RpA.drop n h2
theorem RpA.one {v : V} {d : D} (h : Rp c H v d) : RpA c H [v] [d] := .cons h .nil
theorem RpA.rep {vs : List V} {ds : List D} (h : RpA c H vs ds) : ∀ n, RpA c H (List.replicate n vs).flatten (List.replicate n ds).flatten
  | 0 => .nil
  | n + 1 => by
    rw [List.replicate_succ, List.flatten_cons, List.replicate_succ, List.flatten_cons]
    exact RpA.append h (RpA.rep h n)
end
/- to the library data (no dicts) -/
mutual
def nodict : D → Bool
  | .list ds => nodictA ds
  | .dict _ => false
  | .tuple ds => nodictA ds
  | .none => true
  | .bool _ => true
  | .int _ => true
  | .str _ => true
def nodictA : List D → Bool
  | [] => true
  | d :: ds => nodict d && nodictA ds
end
section
variable {c : Cz} {H : Hp}
mutual
theorem Rp.dp : ∀ {d : D} {v : V}, nodict d = true → Rp c H v d → Dp c.K H v d
  | .none, _, _, r => by cases r; exact .non
  | .bool b, _, _, r => by cases r; exact .bl b
  | .int i, _, _, r => by cases r; exact .int i
  | .str x, _, _, r => by cases r; exact .str x
  | .list ds, _, i, r => by
    cases r with
    | lst h1 h2 => exact .lst h1.sq (RpA.dp (by simpa [nodict] using i) h2)
  | .dict ds, _, i, r => by simp [nodict] at i
  | .tuple ds, _, i, r => by
    cases r with
    | tup h1 h2 => exact .tup h1 (RpA.dp (by simpa [nodict] using i) h2)
theorem RpA.dp : ∀ {ds : List D} {vs : List V}, nodictA ds = true → RpA c H vs ds → DpAll c.K H vs ds
  | [], _, _, r => by cases r; exact .nil
  | d :: ds, _, i, r => by
    rw [nodictA, Bool.and_eq_true] at i
    cases r with
    | cons h1 h2 => exact .cons (Rp.dp i.1 h1) (RpA.dp i.2 h2)
end
end
end Bv

namespace Bv
open PySem PySem.Spec L2 PyProof.Rows

/-! ### results -/
/-- an error: its class's name, its fields -/
structure Xc where
  cls : Str
  pay : List (Str × D)
inductive Rv (A : Type) where
  | un | ok (a : A) | xc (x : Xc)
def Rv.bind {A B : Type} (r : Rv A) (f : A → Rv B) : Rv B := match r with | .un => .un | .ok a => f a | .xc x => .xc x
@[simp] theorem Rv.bind_ok {A B : Type} (a : A) (f : A → Rv B) : (Rv.ok a).bind f = f a := rfl
@[simp] theorem Rv.bind_un {A B : Type} (f : A → Rv B) : (Rv.un : Rv A).bind f = .un := rfl
@[simp] theorem Rv.bind_xc {A B : Type} (x : Xc) (f : A → Rv B) : (Rv.xc x).bind f = .xc x := rfl

abbrev Vw := List (Option D)
def Vok (c : Cz) (H : Hp) (η : Vw) (σ : L2.St) : Prop := η.length ≤ σ.length ∧ ∀ (i : Nat) (d : D), η[i]? = some (some d) → ∃ v : V, σ[i]? = some (some v) ∧ Rp c H v d
theorem Vok.gr {c : Cz} {H H' : Hp} {η : Vw} {σ : L2.St} (e : Gr H H') (h : Vok c H η σ) : Vok c H' η σ := ⟨h.1, fun i d q =>
  let ⟨v, e1, r⟩ := h.2 i d q; ⟨v, e1, r.gr e⟩⟩
/-- an error's class and its own dict, as they stand -/
def XcR (c : Cz) (mg : Str → Option Value) (H : Hp) (x : Xc) (cls : Value) (dx : Option Addr) : Prop :=
  ∃ C, mg x.cls = some (.ref C) ∧ cls = .ref C ∧ (x.pay = [] → dx = none) ∧ ∀ f d r, x.pay = (f, d) :: r → ∃ a v, dx = some a ∧ H a = some (.xd [(f, v)]) ∧ Rp c H v d
theorem XcR.gr {c : Cz} {mg : Str → Option Value} {H H' : Hp} {x : Xc} {cls : Value} {dx : Option Addr} (e : Gr H H') (h : XcR c mg H x cls dx) : XcR c mg H' x cls dx := by
  obtain ⟨C, h1, h2, h3, h4⟩ := h
  exact ⟨C, h1, h2, h3, fun f d r q => let ⟨a, v, p1, p2, p3⟩ := h4 f d r q; ⟨a, v, p1, e _ _ p2, p3.gr e⟩⟩

/-- what a text's parts may use: the world, the room, the names, the scope, what is wished of errors; df: a def's own body (no block of it) -/
structure Wd where
  P : Program
  w : World
  K : PySem.W.Frag
  mg : Str → Option Value
  base : Heap
abbrev Wd.c (T : Wd) : Cz := ⟨T.P, T.w, T.K, T.mg⟩
structure Sx extends Wd where
  k : Nat
  N : List Str
  sc : Scope
  W : WX
  df : Bool
  st : Str → Bool
  tr : Nat
abbrev Sx.c (S : Sx) : Cz := S.toWd.c
/-- .. and where it is so -/
structure Sx.At (S : Sx) (X : Cx) : Prop where
  hP : X.prog = S.P
  hw : X.w = S.w
  hK : X.K = S.K
  hmg : X.mg = S.mg
  hb : X.base = S.base
  hN : X.N = S.N
  hsc : X.env.scope = S.sc
  nd : X.N.Nodup
  calm : X.calm = true
  gd : X.A.guards = some []
  hr : Room S.k X.A
  tk : Takes X S.W
  fnl : ∀ x, L2.Loc S.sc x → S.st x = true → X.fn x = true ∨ X.env.scope.names.lookup x = some .local
  pass : S.df = true → PassesOwn (model X.prog X.w) X.A X.env X.xe
  body : S.df = true → X.stack = X.env :: X.outer ∧ X.env.frame = some X.env.locals ∧ X.ex = []
theorem Sx.At.units {S : Sx} {X : Cx} (h : S.At X) : X.A.units + 65 < cLine := by have := h.hr.un; omega

def Post {A B : Type} (S : Sx) (R : Hp → A → B → Prop) (σ : L2.St) (Z : Addr → Prop) (H : Hp) (Q : A → Hp → Prop) : Rv B → Prop
  | .un => False
  | .ok d => ∀ v H', Gr H H' → R (hid H' Z) v d → Q v H'
  | .xc x => ∀ cls dx H', Gr H H' → XcR S.c S.mg (hid H' Z) x cls dx → S.W cls dx σ H'
theorem Post.gr {A B : Type} {S : Sx} {R : Hp → A → B → Prop} {σ : L2.St} {Z : Addr → Prop} {H H1 : Hp} {Q : A → Hp → Prop} (e : Gr H H1) : ∀ {r : Rv B}, Post S R σ Z H Q r → Post S R σ Z H1 Q r
  | .un, h => h
  | .ok _, h => fun v H' e' r => h v H' (e.trans e') r
  | .xc _, h => fun cls dx H' e' r => h cls dx H' (e.trans e') r
/-- the first part, then the second -/
theorem Post.bind {A B A' B' : Type} {S : Sx} {R : Hp → A → B → Prop} {R' : Hp → A' → B' → Prop} {σ : L2.St} {Z : Addr → Prop} {H : Hp} {Q : A' → Hp → Prop} {T : A → Hp → Prop} {r : Rv B} {f : B → Rv B'}
    (h : Post S R' σ Z H Q (r.bind f)) (k : ∀ b v H', r = .ok b → Gr H H' → R (hid H' Z) v b → Post S R' σ Z H' Q (f b) → T v H') : Post S R σ Z H T r := by
  cases r with
  | un => exact h
  | xc x => exact h
  | ok b => exact fun v H' e q => k b v H' rfl e q (h.gr e)
theorem Post.ok {A B : Type} {S : Sx} {R : Hp → A → B → Prop} {σ : L2.St} {Z : Addr → Prop} {H : Hp} {Q : A → Hp → Prop} {v : A} {d : B} (h : Post S R σ Z H Q (.ok d)) (r : R (hid H Z) v d) : Q v H := h v H (Gr.refl H) r

abbrev RE (S : Sx) : Hp → V → D → Prop := Rp S.c
abbrev RA (S : Sx) : Hp → List V → List D → Prop := RpA S.c
abbrev RT : Hp → Bool → Bool → Prop := fun _ b k => b = k
abbrev RO : Hp → Option Int → Option Int → Prop := fun _ b k => b = k
abbrev RF (S : Sx) : Hp → Addr × List V → List D → Prop := fun H p ds => RpA S.c H p.2 ds
/-- a reading tells f -/
abbrev Tells {A B : Type} (S : Sx) (R : Hp → A → B → Prop) (t : L2.St → Hp → (A → Hp → Prop) → Prop) (f : Vw → Rv B) : Prop :=
  ∀ η σ H Z Q, In Z H → Vok S.c (hid H Z) η σ → Post S R σ Z H Q (f η) → t σ H Q
/-- .. that ends in a new list -/
abbrev TellsF (S : Sx) (t : TE) (f : Vw → Rv (List D)) : Prop :=
  ∀ η σ H Z Q, In Z H → Vok S.c (hid H Z) η σ → Post S (RF S) σ Z H (fun p H' => H' p.1 = none → Q (.ref p.1) (upd H' p.1 (.lst p.2))) (f η) → t σ H Q

structure SemE (S : Sx) (e : Expr) (f : Vw → Rv D) : Prop where
  ex : ∃ t, (∀ X, S.At X → PE X e t) ∧ Tells S (RE S) t f
structure SemT (S : Sx) (e : Expr) (f : Vw → Rv Bool) : Prop where
  ex : ∃ t, (∀ X, S.At X → PT X e t) ∧ Tells S RT t f
structure SemW (S : Sx) (e : Expr) (f : Vw → Rv Bool) : Prop where
  ex : ∃ t, (∀ X, S.At X → PW X e t) ∧ Tells S RT t f
structure SemA (S : Sx) (es : List Expr) (f : Vw → Rv (List D)) : Prop where
  ex : ∃ t, (∀ X, S.At X → PA X es t) ∧ Tells S (RA S) t f
structure SemO (S : Sx) (e : Option Expr) (f : Vw → Rv (Option Int)) : Prop where
  ex : ∃ t, (∀ X, S.At X → PO X e t) ∧ Tells S RO t f
/-- a new list -/
structure SemF (S : Sx) (e : Expr) (f : Vw → Rv (List D)) : Prop where
  ex : ∃ t, (∀ X, S.At X → PE X e t) ∧ TellsF S t f

section
variable {S : Sx}
def cst (d : D) (_ : Vw) : Rv D := .ok d
def var (i : Nat) (η : Vw) : Rv D := match η[i]? with | some (some d) => .ok d | _ => .un
def bi2 (g : D → D → Rv D) (fa fb : Vw → Rv D) (η : Vw) : Rv D := (fa η).bind fun a => (fb η).bind fun b => g a b
def una (g : D → Rv D) (fa : Vw → Rv D) (η : Vw) : Rv D := (fa η).bind g

theorem pe_no {X : Cx} {e : Expr} : PE X e (fun _ _ _ => False) := ⟨fun _ _ _ _ _ _ h => h.elim⟩
theorem pt_no {X : Cx} {e : Expr} : PT X e (fun _ _ _ => False) := ⟨fun _ _ _ _ _ _ h => h.elim⟩
theorem se_un {e : Expr} : SemE S e (fun _ => .un) := ⟨⟨fun _ _ _ => False, fun _ _ => pe_no, fun _ _ _ _ _ _ _ h => h⟩⟩
theorem st_un {e : Expr} : SemT S e (fun _ => .un) := ⟨⟨fun _ _ _ => False, fun _ _ => pt_no, fun _ _ _ _ _ _ _ h => h⟩⟩
theorem se_var (i : Nat) {x : Str} {pos : Pos} (hN : S.N[i]? = some x := by rfl) (hv : Vis S.sc x := by first | exact Or.inl rfl | exact Or.inr (Or.inl rfl) | exact Or.inr (Or.inr rfl)) (hd : (x == ("__debug__" : Str)) = false := by decide)
    (hcd : (x == ("__classdict__" : Str)) = false := by decide) : SemE S (.Name x pos) (var i) := by
  refine ⟨⟨_, fun X hX => pe_var (by rw [hX.hN]; exact hN) (by rw [hX.hsc]; exact hv) hd hcd, fun η σ H Z Q z hη h => ?_⟩⟩
  unfold var at h
  split at h
  · rename_i d e
    obtain ⟨v, e1, r⟩ := hη.2 i d e
    exact ⟨v, e1, h.ok r⟩
  · exact h.elim
theorem se_int {i : Int} {j} {pos : Pos} : SemE S (.Constant (.int i) j pos) (cst (.int i)) := ⟨⟨_, fun _ _ => pe_int, fun _ _ _ _ _ _ _ h => Post.ok h (.int i)⟩⟩
theorem se_bl {b : Bool} {j} {pos : Pos} : SemE S (.Constant (.bool b) j pos) (cst (.bool b)) := ⟨⟨_, fun _ _ => pe_bl, fun _ _ _ _ _ _ _ h => Post.ok h (.bl b)⟩⟩
theorem se_non {j} {pos : Pos} : SemE S (.Constant .none j pos) (cst .none) := ⟨⟨_, fun _ _ => pe_non, fun _ _ _ _ _ _ _ h => Post.ok h .non⟩⟩
theorem se_str {x : Str} {j} {pos : Pos} : SemE S (.Constant (.str x) j pos) (cst (.str x)) := ⟨⟨_, fun _ _ => pe_str, fun _ _ _ _ _ _ _ h => Post.ok h (.str x)⟩⟩

/-- what a two-place operation on values is on data -/
def Op2 (S : Sx) (r : R2) (g : D → D → Rv D) : Prop :=
  ∀ x y a b H Z Q σ, In Z H → Rp S.c (hid H Z) x a → Rp S.c (hid H Z) y b → Post S (RE S) σ Z H Q (g a b) → r x y H Q
theorem bin_run {ta tb : TE} {fa fb : Vw → Rv D} {r : R2} {g : D → D → Rv D} (hr : Op2 S r g) (ha : Tells S (RE S) ta fa) (hb : Tells S (RE S) tb fb) : Tells S (RE S) (tOp r ta tb) (bi2 g fa fb) := by
  intro η σ H Z Q z hη h
  refine ha η σ H Z _ z hη (Post.bind h fun a x H1 _ e1 r1 h1 => ?_)
  refine hb η σ H1 Z _ (z.gr e1) (hη.gr (e1.hid Z)) (Post.bind h1 fun b y H2 _ e2 r2 h2 => ?_)
  exact hr x y a b H2 Z Q σ ((z.gr e1).gr e2) (r1.gr (e2.hid Z)) r2 h2
theorem se_op {op : Operator} {r : R2} {g : D → D → Rv D} {a b : Expr} {fa fb : Vw → Rv D} {pos : Pos} (ho : ∀ X, S.At X → OpR X (binaryOp op) r) (hr : Op2 S r g) (ha : SemE S a fa) (hb : SemE S b fb) : SemE S (.BinOp a op b pos) (bi2 g fa fb) := by
  obtain ⟨ta, pa, qa⟩ := ha.ex
  obtain ⟨tb, pb, qb⟩ := hb.ex
  exact ⟨⟨_, fun X hX => pe_op (ho X hX) (pa X hX) (pb X hX), bin_run hr qa qb⟩⟩
theorem se_cmp {op : CmpOp} {r : R2} {g : D → D → Rv D} {a b : Expr} {fa fb : Vw → Rv D} {pos : Pos} (ho : ∀ X, S.At X → OpR X (compareOp op) r) (hr : Op2 S r g) (ha : SemE S a fa) (hb : SemE S b fb) (hm : behindInMarks op b = false) : SemE S (.Compare a [op] [b] pos) (bi2 g fa fb) := by
  obtain ⟨ta, pa, qa⟩ := ha.ex
  obtain ⟨tb, pb, qb⟩ := hb.ex
  exact ⟨⟨_, fun X hX => pe_cmpR (ho X hX) (pa X hX) (pb X hX) hm, bin_run hr qa qb⟩⟩
def asB (f : Vw → Rv D) (η : Vw) : Rv Bool := (f η).bind fun d => match d with | .bool b => .ok b | _ => .un
theorem asB_run {t : TE} {f : Vw → Rv D} (h : Tells S (RE S) t f) : Tells S RT (fun σ H Q => t σ H fun x H' => ∃ k, x = .bl k ∧ Q k H') (asB f) := by
  intro η σ H Z Q z hη hq
  refine h η σ H Z _ z hη (Post.bind hq fun d x H1 _ e1 r1 h1 => ?_)
  cases r1 with
  | bl b => exact ⟨b, rfl, Post.ok (R := RT) h1 rfl⟩
  | _ => exact h1.elim
theorem st_cmp {op : CmpOp} {r : R2} {g : D → D → Rv D} {a b : Expr} {fa fb : Vw → Rv D} {pos : Pos} (ho : ∀ X, S.At X → OpR X (compareOp op) r) (hr : Op2 S r g) (ha : SemE S a fa) (hb : SemE S b fb) (hm : behindInMarks op b = false) : SemT S (.Compare a [op] [b] pos) (asB (bi2 g fa fb)) := by
  obtain ⟨ta, pa, qa⟩ := ha.ex
  obtain ⟨tb, pb, qb⟩ := hb.ex
  exact ⟨⟨_, fun X hX => pt_cmpR (ho X hX) (pa X hX) (pb X hX) hm, asB_run (bin_run hr qa qb)⟩⟩
/-- an expression that gives a truth, as a test -/
theorem st_val {e : Expr} {f : Vw → Rv D} (h : SemE S e f) (he : ∀ env whole, isTrue e env whole = (do let v ← whole; standAt e.pos; holding [v] (truthy v)) := by intro _ _; rfl) : SemT S e (asB f) := by
  obtain ⟨t, p, q⟩ := h.ex
  exact ⟨⟨_, fun X hX => pt_val (p X hX) (he _), asB_run q⟩⟩
def tand (f g : Vw → Rv Bool) (η : Vw) : Rv Bool := (f η).bind fun b => if b = true then g η else .ok false
def tor (f g : Vw → Rv Bool) (η : Vw) : Rv Bool := (f η).bind fun b => if b = true then .ok true else g η
def tnot (f : Vw → Rv Bool) (η : Vw) : Rv Bool := (f η).bind fun b => .ok (!b)
theorem st_w {e : Expr} {f : Vw → Rv Bool} (h : SemW S e f) : SemT S e f := let ⟨t, p, q⟩ := h.ex; ⟨⟨t, fun X hX => (p X hX).pt, q⟩⟩
theorem sw_and1 {a : Expr} {pos : Pos} {f : Vw → Rv Bool} (h : SemT S a f) : SemW S (.BoolOp .And [a] pos) f := let ⟨t, p, q⟩ := h.ex; ⟨⟨t, fun X hX => pw_and1 (p X hX), q⟩⟩
theorem sw_or1 {a : Expr} {pos : Pos} {f : Vw → Rv Bool} (h : SemT S a f) : SemW S (.BoolOp .Or [a] pos) f := let ⟨t, p, q⟩ := h.ex; ⟨⟨t, fun X hX => pw_or1 (p X hX), q⟩⟩
theorem sw_and {a b : Expr} {rest : List Expr} {pos : Pos} {f g : Vw → Rv Bool} (h : SemT S a f) (h2 : SemW S (.BoolOp .And (b :: rest) pos) g) : SemW S (.BoolOp .And (a :: b :: rest) pos) (tand f g) := by
  obtain ⟨t, p, q⟩ := h.ex
  obtain ⟨t2, p2, q2⟩ := h2.ex
  refine ⟨⟨_, fun X hX => pw_and (p X hX) (p2 X hX), fun η σ H Z Q z hη h => ?_⟩⟩
  refine q η σ H Z _ z hη (Post.bind h fun b v H1 _ e1 r1 h1 => ?_)
  cases (show v = b from r1)
  cases b with
  | true => exact q2 η σ H1 Z Q (z.gr e1) (hη.gr (e1.hid Z)) h1
  | false => exact Post.ok (R := RT) h1 rfl
theorem sw_or {a b : Expr} {rest : List Expr} {pos : Pos} {f g : Vw → Rv Bool} (h : SemT S a f) (h2 : SemW S (.BoolOp .Or (b :: rest) pos) g) : SemW S (.BoolOp .Or (a :: b :: rest) pos) (tor f g) := by
  obtain ⟨t, p, q⟩ := h.ex
  obtain ⟨t2, p2, q2⟩ := h2.ex
  refine ⟨⟨_, fun X hX => pw_or (p X hX) (p2 X hX), fun η σ H Z Q z hη h => ?_⟩⟩
  refine q η σ H Z _ z hη (Post.bind h fun b v H1 _ e1 r1 h1 => ?_)
  cases (show v = b from r1)
  cases b with
  | false => exact q2 η σ H1 Z Q (z.gr e1) (hη.gr (e1.hid Z)) h1
  | true => exact Post.ok (R := RT) h1 rfl
theorem st_not {a : Expr} {pos : Pos} {f : Vw → Rv Bool} (h : SemT S a f) : SemT S (.UnaryOp .Not a pos) (tnot f) := by
  obtain ⟨t, p, q⟩ := h.ex
  refine ⟨⟨_, fun X hX => pt_not (p X hX), fun η σ H Z Q z hη h => ?_⟩⟩
  refine q η σ H Z _ z hη (Post.bind h fun b v H1 _ e1 r1 h1 => ?_)
  cases (show v = b from r1)
  exact Post.ok (R := RT) h1 rfl
/-- .. as values -/
def vand (f g : Vw → Rv D) (η : Vw) : Rv D := (asB f η).bind fun b => if b = true then g η else .ok (.bool false)
def vor (f g : Vw → Rv D) (η : Vw) : Rv D := (asB f η).bind fun b => if b = true then .ok (.bool true) else g η
def vnot (f : Vw → Rv D) (η : Vw) : Rv D := (asB f η).bind fun b => .ok (.bool !b)
theorem se_one {a : Expr} {op} {pos : Pos} {f : Vw → Rv D} (h : SemE S a f) : SemE S (.BoolOp op [a] pos) f := let ⟨t, p, q⟩ := h.ex; ⟨⟨t, fun X hX => pe_one (p X hX), q⟩⟩
theorem se_and {a b : Expr} {rest : List Expr} {pos : Pos} {f g : Vw → Rv D} (h : SemE S a f) (h2 : SemE S (.BoolOp .And (b :: rest) pos) g) : SemE S (.BoolOp .And (a :: b :: rest) pos) (vand f g) := by
  obtain ⟨t, p, q⟩ := h.ex
  obtain ⟨t2, p2, q2⟩ := h2.ex
  refine ⟨⟨_, fun X hX => pe_and (p X hX) (p2 X hX), fun η σ H Z Q z hη h => ?_⟩⟩
  refine asB_run q η σ H Z _ z hη (Post.bind h fun b v H1 _ e1 r1 h1 => ?_)
  cases (show v = b from r1)
  cases b with
  | true => exact q2 η σ H1 Z Q (z.gr e1) (hη.gr (e1.hid Z)) h1
  | false => exact Post.ok (R := RE S) h1 (.bl false)
theorem se_or {a b : Expr} {rest : List Expr} {pos : Pos} {f g : Vw → Rv D} (h : SemE S a f) (h2 : SemE S (.BoolOp .Or (b :: rest) pos) g) : SemE S (.BoolOp .Or (a :: b :: rest) pos) (vor f g) := by
  obtain ⟨t, p, q⟩ := h.ex
  obtain ⟨t2, p2, q2⟩ := h2.ex
  refine ⟨⟨_, fun X hX => pe_or (p X hX) (p2 X hX), fun η σ H Z Q z hη h => ?_⟩⟩
  refine asB_run q η σ H Z _ z hη (Post.bind h fun b v H1 _ e1 r1 h1 => ?_)
  cases (show v = b from r1)
  cases b with
  | false => exact q2 η σ H1 Z Q (z.gr e1) (hη.gr (e1.hid Z)) h1
  | true => exact Post.ok (R := RE S) h1 (.bl true)
theorem se_not {a : Expr} {pos : Pos} {f : Vw → Rv D} (h : SemE S a f) : SemE S (.UnaryOp .Not a pos) (vnot f) := by
  obtain ⟨t, p, q⟩ := h.ex
  refine ⟨⟨_, fun X hX => pe_not (p X hX), fun η σ H Z Q z hη h => ?_⟩⟩
  refine asB_run q η σ H Z _ z hη (Post.bind h fun b v H1 _ e1 r1 h1 => ?_)
  cases (show v = b from r1)
  exact Post.ok (R := RE S) h1 (.bl !b)
def ifx (c : Vw → Rv Bool) (f g : Vw → Rv D) (η : Vw) : Rv D := (c η).bind fun b => if b = true then f η else g η
theorem se_if {c a b : Expr} {pos : Pos} {fc : Vw → Rv Bool} {f g : Vw → Rv D} (hc : SemT S c fc) (h : SemE S a f) (h2 : SemE S b g) : SemE S (.IfExp c a b pos) (ifx fc f g) := by
  obtain ⟨t, p, q⟩ := hc.ex
  obtain ⟨t1, p1, q1⟩ := h.ex
  obtain ⟨t2, p2, q2⟩ := h2.ex
  refine ⟨⟨_, fun X hX => pe_ifExp (p X hX) (p1 X hX) (p2 X hX), fun η σ H Z Q z hη h => ?_⟩⟩
  refine q η σ H Z _ z hη (Post.bind h fun b v H1 _ e1 r1 h1 => ?_)
  cases (show v = b from r1)
  cases b with
  | true => exact q1 η σ H1 Z Q (z.gr e1) (hη.gr (e1.hid Z)) h1
  | false => exact q2 η σ H1 Z Q (z.gr e1) (hη.gr (e1.hid Z)) h1

/-! ### argument lists, displays -/
def anil (_ : Vw) : Rv (List D) := .ok []
def acons (f : Vw → Rv D) (g : Vw → Rv (List D)) (η : Vw) : Rv (List D) := (f η).bind fun a => (g η).bind fun b => .ok (a :: b)
theorem sa_nil : SemA S [] anil := ⟨⟨_, fun _ _ => pa_nil, fun _ _ _ _ _ _ _ h => Post.ok (R := RA S) h .nil⟩⟩
theorem sa_cons {e : Expr} {es : List Expr} {f : Vw → Rv D} {g : Vw → Rv (List D)} (h : SemE S e f) (h2 : SemA S es g) (hs : ∀ env, starEach (e :: es) env = (false, eval e env) :: starEach es env := by intro _; rfl) : SemA S (e :: es) (acons f g) := by
  obtain ⟨t, p, q⟩ := h.ex
  obtain ⟨t2, p2, q2⟩ := h2.ex
  refine ⟨⟨_, fun X hX => pa_cons (p X hX) (p2 X hX) (hs _), fun η σ H Z Q z hη h => ?_⟩⟩
  refine q η σ H Z _ z hη (Post.bind h fun a x H1 _ e1 r1 h1 => ?_)
  refine q2 η σ H1 Z _ (z.gr e1) (hη.gr (e1.hid Z)) (Post.bind h1 fun b y H2 _ e2 r2 h2 => ?_)
  exact Post.ok (R := RA S) h2 (.cons (r1.gr (e2.hid Z)) r2)
theorem line_ge {n : Nat} (h : n ≤ 16000000) : n ≤ sizeLine := Nat.le_trans h (by decide)
theorem line_gt {n : Nat} (h : n < 16000000) : n < sizeLine := Nat.lt_of_lt_of_le h (by decide)
/-- a new tuple of what stands -/
theorem Post.newT {σ : L2.St} {Z : Addr → Prop} {H : Hp} {Q : VK} {xs : List V} {ds : List D} {p : Addr} (z : In Z H) (h : Post S (RE S) σ Z H Q (.ok (.tuple ds))) (r : RpA S.c (hid H Z) xs ds) (hp : H p = none) : Q (.ref p) (upd H p (.tup xs)) :=
  h _ _ (Gr.new hp) (.tup (.inl (.inl (hid_new z hp))) (RpA.gr ((Gr.new hp).hid Z) r))
theorem Post.newL {σ : L2.St} {Z : Addr → Prop} {H : Hp} {Q : VK} {xs : List V} {ds : List D} {p : Addr} (z : In Z H) (h : Post S (RE S) σ Z H Q (.ok (.list ds))) (r : RpA S.c (hid H Z) xs ds) (hp : H p = none) : Q (.ref p) (upd H p (.lst xs)) :=
  h _ _ (Gr.new hp) (.lst (.inl (.inl (hid_new z hp))) (RpA.gr ((Gr.new hp).hid Z) r))
def tupD (f : Vw → Rv (List D)) (η : Vw) : Rv D := (f η).bind fun ds => if ds.length ≤ 16000000 then .ok (.tuple ds) else .un
def lstF (f : Vw → Rv (List D)) (η : Vw) : Rv (List D) := (f η).bind fun ds => if ds.length ≤ 16000000 then .ok ds else .un
theorem se_tup {es : List Expr} {x1} {pos : Pos} {f : Vw → Rv (List D)} (h : SemA S es f) : SemE S (.Tuple es x1 pos) (tupD f) := by
  obtain ⟨t, p, q⟩ := h.ex
  refine ⟨⟨_, fun X hX => pe_tup (p X hX), fun η σ H Z Q z hη h => ?_⟩⟩
  refine q η σ H Z _ z hη (Post.bind h fun ds xs H1 _ e1 r1 h1 => ?_)
  have hl := RpA.length r1
  by_cases hd : ds.length ≤ 16000000
  · rw [if_pos hd] at h1
    exact ⟨line_ge (by omega), fun p hp => Post.newT (z.gr e1) h1 r1 hp⟩
  · rw [if_neg hd] at h1; exact h1.elim
theorem sf_lst {es : List Expr} {pos : Pos} {f : Vw → Rv (List D)} (h : SemA S es f) : SemF S (.List es pos) (lstF f) := by
  obtain ⟨t, p, q⟩ := h.ex
  refine ⟨⟨_, fun X hX => pe_lst (p X hX), fun η σ H Z Q z hη h => ?_⟩⟩
  refine q η σ H Z _ z hη (Post.bind h fun ds xs H1 _ e1 r1 h1 => ?_)
  have hl := RpA.length r1
  by_cases hd : ds.length ≤ 16000000
  · rw [if_pos hd] at h1
    exact ⟨line_ge (by omega), fun p hp => h1 (p, xs) H1 (Gr.refl _) r1 hp⟩
  · rw [if_neg hd] at h1; exact h1.elim
def lstD (f : Vw → Rv (List D)) (η : Vw) : Rv D := (f η).bind fun ds => .ok (.list ds)
/-- a new list, as any value -/
theorem TellsF.e {t : TE} {f : Vw → Rv (List D)} (q : TellsF S t f) : Tells S (RE S) t (lstD f) := by
  intro η σ H Z Q z hη h
  refine q η σ H Z Q z hη ?_
  unfold lstD at h
  cases hf : f η with
  | un => rw [hf] at h; exact h
  | xc x => rw [hf] at h; exact h
  | ok ds =>
    rw [hf] at h
    intro p H1 e1 r hp
    exact Post.newL (z.gr e1) (h.gr e1) r hp
theorem SemF.e {e : Expr} {f : Vw → Rv (List D)} (h : SemF S e f) : SemE S e (lstD f) := by
  obtain ⟨t, p, q⟩ := h.ex
  exact ⟨⟨t, p, TellsF.e q⟩⟩
end
end Bv

namespace Bv
open PySem PySem.Spec L2 PyProof.Rows
section
variable {X : Cx} {S : Sx}
theorem RdL.lst_at {pins : List (Addr × Obj)} {σ : L2.St} {H : Hp} {s : Shared} {a : Addr} {xs : List V} (I : Inv X pins σ H s) (h : RdL X.K H a xs) :
    ∃ (its : List Value) (n : Nat), Vals xs its ∧ s.heap.get? a = some { cls := .type "list", data := .seq its.toArray n } ∧ xs.length ≤ sizeLine := by
  rcases h with h | ⟨its, n, hk, r, z⟩
  · obtain ⟨z, its, n, r, e⟩ := h.ok I.hok
    exact ⟨its, n, r, e, z⟩
  · exact ⟨its, n, r, I.kIn a _ hk, z⟩
/-- list + list, however they are read -/
def rCatR (K : PySem.W.Frag) : R2 := fun x y H Q => ∃ l b xs zs, x = .ref l ∧ y = .ref b ∧ RdL K H l xs ∧ RdL K H b zs ∧ xs.length + zs.length ≤ sizeLine ∧ ∀ p, H p = none → Q (.ref p) (upd H p (.lst (xs ++ zs)))
theorem op_catR : OpR X (binaryOp .Add) (rCatR X.K) := by
  intro pins s σ H x y v u Q I rx ry h
  obtain ⟨l, b, xs, zs, rfl, rfl, hH, hB, hz, q⟩ := h
  cases rx
  cases ry
  obtain ⟨its, n, r, e, h1⟩ := RdL.lst_at I hH
  obtain ⟨its2, n2, r2, e2, h2⟩ := RdL.lst_at I hB
  have l1 := r.length
  have l2 := r2.length
  refine PySem.P.add_list e e2 ?_ (by rw [List.size_toArray, List.size_toArray]; omega)
  rw [show its.toArray ++ its2.toArray = (its ++ its2).toArray by simp]
  refine ⟨.ref _, _, I.laid (t' := s.toks) (o := .lst (xs ++ zs)) (fun b ob w => Heap.get?_push_of_some _ w) (Nat.le_refl _) ?_, rfl, q _ (I.hok.fresh (Nat.le_refl _))⟩
  exact ⟨by rw [List.length_append]; exact hz, _, _, r.append r2, Heap.get?_push_size _ rfl⟩

/-! ### + -/
def dAdd : D → D → Rv D
  | .int i, .int j => .ok (.int (i + j))
  | .str i, .str j => if i.length + j.length ≤ 16000000 then .ok (.str (i ++ j)) else .un
  | .list xs, .list ys => if xs.length + ys.length ≤ 16000000 then .ok (.list (xs ++ ys)) else .un
  | .tuple xs, .tuple ys => if xs.length + ys.length ≤ 16000000 then .ok (.tuple (xs ++ ys)) else .un
  | _, _ => .un
@[simp] theorem dAdd_ii (i j : Int) : dAdd (.int i) (.int j) = .ok (.int (i + j)) := rfl
@[simp] theorem dAdd_ss (i j : Str) : dAdd (.str i) (.str j) = if i.length + j.length ≤ 16000000 then .ok (.str (i ++ j)) else .un := rfl
@[simp] theorem dAdd_ll (i j : List D) : dAdd (.list i) (.list j) = if i.length + j.length ≤ 16000000 then .ok (.list (i ++ j)) else .un := rfl
@[simp] theorem dAdd_tt (i j : List D) : dAdd (.tuple i) (.tuple j) = if i.length + j.length ≤ 16000000 then .ok (.tuple (i ++ j)) else .un := rfl
def rAddAll (K : PySem.W.Frag) : R2 := fun x y H Q => (rI0 fun i j => .int (i + j)) x y H Q ∨ (∃ i j, x = .str i ∧ y = .str j ∧ i.length + j.length ≤ sizeLine ∧ Q (.str (i ++ j)) H) ∨ rCatR K x y H Q ∨ rCatA K x y H Q
theorem op_addAll : OpR X (binaryOp .Add) (rAddAll X.K) := op_add.or (op_add_str.or (op_catR.or op_catA))
theorem o2_add : Op2 S (rAddAll S.K) dAdd := by
  intro x y a b H Z Q σ z ra rb h
  cases ra with
  | int i =>
    cases rb with
    | int j => exact .inl ⟨i, j, rfl, rfl, Post.ok (R := RE S) h (.int _)⟩
    | _ => exact False.elim h
  | str i =>
    cases rb with
    | str j =>
      rw [dAdd_ss] at h
      split at h
      · rename_i hl
        exact .inr (.inl ⟨i, j, rfl, rfl, line_ge hl, Post.ok (R := RE S) h (.str _)⟩)
      · exact False.elim h
    | _ => exact False.elim h
  | lst h1 r1 =>
    cases rb with
    | lst h2 r2 =>
      rw [dAdd_ll] at h
      split at h
      · rename_i hl
        have e1 := RpA.length r1
        have e2 := RpA.length r2
        exact .inr (.inr (.inl ⟨_, _, _, _, rfl, rfl, (Gr.hid_le H Z).rdl h1, (Gr.hid_le H Z).rdl h2, line_ge (by omega), fun p hp => Post.newL z h (RpA.append r1 r2) hp⟩))
      · exact False.elim h
    | _ => exact False.elim h
  | @tup a1 xs ds h1 r1 =>
    cases rb with
    | @tup b1 ys es h2 r2 =>
      rw [dAdd_tt] at h
      split at h
      · rename_i hl
        have e1 := RpA.length r1
        have e2 := RpA.length r2
        refine .inr (.inr (.inr ⟨_, _, _, _, rfl, rfl, (Gr.hid_le H Z).sqT h1, (Gr.hid_le H Z).sqT h2, line_ge (by omega), fun q => ?_, fun _ q => ?_, fun _ _ p hp => Post.newT z h (RpA.append r1 r2) hp⟩))
        · subst q
          cases r1
          exact Post.ok (R := RE S) h (.tup h2 r2)
        · subst q
          cases r2
          rw [List.append_nil] at h
          exact Post.ok (R := RE S) h (.tup h1 r1)
      · exact False.elim h
    | _ => exact False.elim h
  | _ => exact False.elim h
theorem se_add {a b : Expr} {fa fb : Vw → Rv D} {pos : Pos} (ha : SemE S a fa) (hb : SemE S b fb) : SemE S (.BinOp a .Add b pos) (bi2 dAdd fa fb) := se_op (fun X hX => hX.hK ▸ op_addAll) o2_add ha hb

/-! ### - * // % ** of whole numbers -/
def dInt2 (c : Int → Int → Bool) (g : Int → Int → Int) : D → D → Rv D
  | .int i, .int j => if c i j = true then .ok (.int (g i j)) else .un
  | _, _ => .un
theorem dInt2_ii (c : Int → Int → Bool) (g : Int → Int → Int) (i j : Int) : dInt2 c g (.int i) (.int j) = if c i j = true then .ok (.int (g i j)) else .un := rfl
theorem o2_int {C : Int → Int → Prop} {c : Int → Int → Bool} {g : Int → Int → Int} (hc : ∀ i j, c i j = true → C i j) : Op2 S (rI C fun i j => .int (g i j)) (dInt2 c g) := by
  intro x y a b H Z Q σ z ra rb h
  cases ra with
  | int i =>
    cases rb with
    | int j =>
      rw [dInt2_ii] at h
      split at h
      · rename_i e
        exact ⟨i, j, rfl, rfl, hc i j e, Post.ok (R := RE S) h (.int _)⟩
      · exact False.elim h
    | _ => exact False.elim h
  | _ => exact False.elim h
def dSub : D → D → Rv D := dInt2 (fun _ _ => true) fun i j => i - j
@[simp] theorem dSub_ii (i j : Int) : dSub (.int i) (.int j) = .ok (.int (i - j)) := rfl
theorem rI_of0 {f : Value → Value → Sem Value} {g : Int → Int → V} (h : OpR X f (rI0 g)) : OpR X f (rI (fun _ _ => True) g) := fun pins s σ H x y v u Q I rx ry q => h pins s σ H x y v u Q I rx ry (let ⟨i, j, a, b, _, e⟩ := q; ⟨i, j, a, b, e⟩)
theorem se_sub {a b : Expr} {fa fb : Vw → Rv D} {pos : Pos} (ha : SemE S a fa) (hb : SemE S b fb) : SemE S (.BinOp a .Sub b pos) (bi2 dSub fa fb) := se_op (fun _ _ => rI_of0 op_sub) (o2_int fun _ _ _ => trivial) ha hb
def divOk (_ j : Int) : Bool := decide (0 < j ∧ j < 1073741824)
def dDiv : D → D → Rv D := dInt2 divOk fun i j => i / j
theorem dDiv_ii (i j : Int) : dDiv (.int i) (.int j) = if divOk i j = true then .ok (.int (i / j)) else .un := rfl
theorem se_div {a b : Expr} {fa fb : Vw → Rv D} {pos : Pos} (ha : SemE S a fa) (hb : SemE S b fb) : SemE S (.BinOp a .FloorDiv b pos) (bi2 dDiv fa fb) := se_op (fun _ _ => op_fdiv) (o2_int (c := divOk) fun i j e => (of_decide_eq_true e : 0 < j ∧ j < 1073741824)) ha hb
def modOk (_ j : Int) : Bool := decide (0 < j)
def dMod : D → D → Rv D := dInt2 modOk fun i j => i % j
theorem dMod_ii (i j : Int) : dMod (.int i) (.int j) = if modOk i j = true then .ok (.int (i % j)) else .un := rfl
theorem se_mod {a b : Expr} {fa fb : Vw → Rv D} {pos : Pos} (ha : SemE S a fa) (hb : SemE S b fb) : SemE S (.BinOp a .Mod b pos) (bi2 dMod fa fb) := se_op (fun _ _ => op_mod) (o2_int fun _ _ e => of_decide_eq_true e) ha hb
def powOk (i j : Int) : Bool := decide (0 ≤ j ∧ j ≤ 1000000 ∧ i.natAbs < 2 ^ 64)
def dPow : D → D → Rv D := dInt2 powOk fun i j => i ^ j.toNat
theorem dPow_ii (i j : Int) : dPow (.int i) (.int j) = if powOk i j = true then .ok (.int (i ^ j.toNat)) else .un := rfl
theorem se_pow {a b : Expr} {fa fb : Vw → Rv D} {pos : Pos} (ha : SemE S a fa) (hb : SemE S b fb) : SemE S (.BinOp a .Pow b pos) (bi2 dPow fa fb) := se_op (fun _ _ => op_pow) (o2_int (c := powOk) fun i j e => (of_decide_eq_true e : 0 ≤ j ∧ j ≤ 1000000 ∧ i.natAbs < 2 ^ 64)) ha hb
def dNeg : D → Rv D
  | .int i => .ok (.int (-i))
  | _ => .un
@[simp] theorem dNeg_i (i : Int) : dNeg (.int i) = .ok (.int (-i)) := rfl
theorem se_neg {a : Expr} {fa : Vw → Rv D} {pos : Pos} (ha : SemE S a fa) : SemE S (.UnaryOp .USub a pos) (una dNeg fa) := by
  obtain ⟨t, p, q⟩ := ha.ex
  refine ⟨⟨_, fun X hX => pe_un un_neg (p X hX), fun η σ H Z Q z hη h => ?_⟩⟩
  refine q η σ H Z _ z hη (Post.bind h fun d x H1 _ e1 r1 h1 => ?_)
  cases r1 with
  | int i => exact ⟨i, rfl, Post.ok (R := RE S) h1 (.int _)⟩
  | _ => exact False.elim h1

/-! ### comparisons -/
def dRel (p : Int → Int → Bool) : D → D → Rv D
  | .int i, .int j => .ok (.bool (p i j))
  | _, _ => .un
@[simp] theorem dRel_ii (p : Int → Int → Bool) (i j : Int) : dRel p (.int i) (.int j) = .ok (.bool (p i j)) := rfl
theorem o2_rel {p : Int → Int → Bool} : Op2 S (rI0 fun i j => .bl (p i j)) (dRel p) := by
  intro x y a b H Z Q σ z ra rb h
  cases ra with
  | int i =>
    cases rb with
    | int j => exact ⟨i, j, rfl, rfl, Post.ok (R := RE S) h (.bl _)⟩
    | _ => exact False.elim h
  | _ => exact False.elim h
abbrev dLt : D → D → Rv D := dRel fun i j => decide (i < j)
abbrev dLe : D → D → Rv D := dRel fun i j => decide (i ≤ j)
abbrev dGt : D → D → Rv D := dRel fun i j => decide (j < i)
abbrev dGe : D → D → Rv D := dRel fun i j => decide (j ≤ i)
/-- data that == looks through -/
def shp (d : D) : Bool := nodict d && SeqAt.shaped d
@[simp] theorem shp_int (i : Int) : shp (.int i) = true := by simp [shp, nodict, SeqAt.shaped, PyData.canLay0, PyData.depth]
def dEq : D → D → Rv D
  | .int i, .int j => .ok (.bool (decide (i = j)))
  | .str i, .str j => .ok (.bool (decide (i = j)))
  | a, b => if shp a = true ∧ shp b = true then .ok (.bool (PyData.eqv a b)) else .un
def dNe (a b : D) : Rv D := (dEq a b).bind fun d => match d with | .bool k => .ok (.bool !k) | _ => .un
@[simp] theorem dEq_ii (i j : Int) : dEq (.int i) (.int j) = .ok (.bool (decide (i = j))) := rfl
@[simp] theorem dEq_ss (i j : Str) : dEq (.str i) (.str j) = .ok (.bool (decide (i = j))) := rfl
@[simp] theorem dNe_ii (i j : Int) : dNe (.int i) (.int j) = .ok (.bool !(decide (i = j))) := rfl
@[simp] theorem dNe_ss (i j : Str) : dNe (.str i) (.str j) = .ok (.bool !(decide (i = j))) := rfl
theorem dEq_at (a b : D) : (∃ k, dEq a b = .ok (.bool k) ∧ shp a = true ∧ shp b = true ∧ PyData.eqv a b = k) ∨ (∃ x y, a = .str x ∧ b = .str y ∧ dEq a b = .ok (.bool (decide (x = y)))) ∨ dEq a b = .un := by
  unfold dEq
  split
  · exact .inl ⟨_, rfl, by simp, by simp, by rw [PyData.eqv, Bool.eq_iff_iff]; simp⟩
  · exact .inr (.inl ⟨_, _, rfl, rfl, rfl⟩)
  · split
    · rename_i h
      exact .inl ⟨_, rfl, h.1, h.2, rfl⟩
    · exact .inr (.inr rfl)
def rEqA (K : PySem.W.Frag) : R2 := fun x y H Q => rEqD K x y H Q ∨ rEq x y H Q
def rNeA (K : PySem.W.Frag) : R2 := fun x y H Q => rNeD K x y H Q ∨ rNe x y H Q
theorem op_eqA (hu : X.A.units + 64 < cLine) : OpR X (compareOp .Eq) (rEqA X.K) := (op_eqD hu).or op_eq
theorem op_neA (hu : X.A.units + 64 < cLine) : OpR X (compareOp .NotEq) (rNeA X.K) := (op_neD hu).or op_ne
theorem dec_strV {x y : Str} : decide (V.str x = V.str y) = decide (x = y) := by
  rw [Bool.eq_iff_iff]; simp
theorem o2_eq : Op2 S (rEqA S.K) dEq := by
  intro x y a b H Z Q σ z ra rb h
  rcases dEq_at a b with ⟨k, e, sa, sb, ek⟩ | ⟨i, j, rfl, rfl, e⟩ | e
  · rw [e] at h
    rw [shp, Bool.and_eq_true] at sa sb
    refine .inl ⟨a, b, (Rp.dp sa.1 (ra.gr (Gr.hid_le H Z))), (Rp.dp sb.1 (rb.gr (Gr.hid_le H Z))), sa.2, sb.2, ?_⟩
    rw [ek]
    exact Post.ok (R := RE S) h (.bl _)
  · cases ra
    cases rb
    rw [e] at h
    refine .inr ⟨rfl, ?_⟩
    rw [dec_strV]
    exact Post.ok (R := RE S) h (.bl _)
  · rw [e] at h; exact False.elim h
theorem o2_ne : Op2 S (rNeA S.K) dNe := by
  intro x y a b H Z Q σ z ra rb h
  unfold dNe at h
  rcases dEq_at a b with ⟨k, e, sa, sb, ek⟩ | ⟨i, j, rfl, rfl, e⟩ | e
  · rw [e] at h
    rw [shp, Bool.and_eq_true] at sa sb
    refine .inl ⟨a, b, (Rp.dp sa.1 (ra.gr (Gr.hid_le H Z))), (Rp.dp sb.1 (rb.gr (Gr.hid_le H Z))), sa.2, sb.2, ?_⟩
    rw [ek]
    exact Post.ok (R := RE S) h (.bl _)
  · cases ra
    cases rb
    rw [e] at h
    refine .inr ⟨rfl, ?_⟩
    rw [dec_strV]
    exact Post.ok (R := RE S) h (.bl _)
  · rw [e] at h; exact False.elim h
variable {a b c : Expr} {fa fb fc : Vw → Rv D} {pos : Pos}
theorem se_lt (ha : SemE S a fa) (hb : SemE S b fb) : SemE S (.Compare a [.Lt] [b] pos) (bi2 dLt fa fb) := se_cmp (fun _ _ => op_lt) o2_rel ha hb (nomark _)
theorem se_le (ha : SemE S a fa) (hb : SemE S b fb) : SemE S (.Compare a [.LtE] [b] pos) (bi2 dLe fa fb) := se_cmp (fun _ _ => op_le) o2_rel ha hb (nomark _)
theorem se_gt (ha : SemE S a fa) (hb : SemE S b fb) : SemE S (.Compare a [.Gt] [b] pos) (bi2 dGt fa fb) := se_cmp (fun _ _ => op_gt) o2_rel ha hb (nomark _)
theorem se_ge (ha : SemE S a fa) (hb : SemE S b fb) : SemE S (.Compare a [.GtE] [b] pos) (bi2 dGe fa fb) := se_cmp (fun _ _ => op_ge) o2_rel ha hb (nomark _)
theorem se_eq (ha : SemE S a fa) (hb : SemE S b fb) : SemE S (.Compare a [.Eq] [b] pos) (bi2 dEq fa fb) := se_cmp (fun X hX => hX.hK ▸ op_eqA (by have := hX.units; omega)) o2_eq ha hb (nomark _)
theorem se_ne (ha : SemE S a fa) (hb : SemE S b fb) : SemE S (.Compare a [.NotEq] [b] pos) (bi2 dNe fa fb) := se_cmp (fun X hX => hX.hK ▸ op_neA (by have := hX.units; omega)) o2_ne ha hb (nomark _)
theorem st_lt (ha : SemE S a fa) (hb : SemE S b fb) : SemT S (.Compare a [.Lt] [b] pos) (asB (bi2 dLt fa fb)) := st_cmp (fun _ _ => op_lt) o2_rel ha hb (nomark _)
theorem st_le (ha : SemE S a fa) (hb : SemE S b fb) : SemT S (.Compare a [.LtE] [b] pos) (asB (bi2 dLe fa fb)) := st_cmp (fun _ _ => op_le) o2_rel ha hb (nomark _)
theorem st_gt (ha : SemE S a fa) (hb : SemE S b fb) : SemT S (.Compare a [.Gt] [b] pos) (asB (bi2 dGt fa fb)) := st_cmp (fun _ _ => op_gt) o2_rel ha hb (nomark _)
theorem st_ge (ha : SemE S a fa) (hb : SemE S b fb) : SemT S (.Compare a [.GtE] [b] pos) (asB (bi2 dGe fa fb)) := st_cmp (fun _ _ => op_ge) o2_rel ha hb (nomark _)
theorem st_eq (ha : SemE S a fa) (hb : SemE S b fb) : SemT S (.Compare a [.Eq] [b] pos) (asB (bi2 dEq fa fb)) := st_cmp (fun X hX => hX.hK ▸ op_eqA (by have := hX.units; omega)) o2_eq ha hb (nomark _)
theorem st_ne (ha : SemE S a fa) (hb : SemE S b fb) : SemT S (.Compare a [.NotEq] [b] pos) (asB (bi2 dNe fa fb)) := st_cmp (fun X hX => hX.hK ▸ op_neA (by have := hX.units; omega)) o2_ne ha hb (nomark _)
/-- is None, is not None -/
def isN : D → Bool
  | .none => true
  | _ => false
def dIs : D → D → Rv D
  | a, .none => .ok (.bool (isN a))
  | _, _ => .un
def dIsNot : D → D → Rv D
  | a, .none => .ok (.bool !(isN a))
  | _, _ => .un
@[simp] theorem dIs_n (a : D) : dIs a .none = .ok (.bool (isN a)) := by cases a <;> rfl
@[simp] theorem dIsNot_n (a : D) : dIsNot a .none = .ok (.bool !(isN a)) := by cases a <;> rfl
theorem Rp.isN {c : Cz} {H : Hp} {v : V} {d : D} (r : Rp c H v d) : Bv.isN d = decide (v = .non) := by
  cases r <;> rfl
theorem o2_is : Op2 S (fun x y H Q => y = .non ∧ Q (.bl (decide (x = .non))) H) dIs := by
  intro x y a b H Z Q σ z ra rb h
  cases rb with
  | non =>
    rw [dIs_n, ra.isN] at h
    exact ⟨rfl, Post.ok (R := RE S) h (.bl _)⟩
  | _ => cases a <;> exact False.elim h
theorem o2_isnot : Op2 S (fun x y H Q => y = .non ∧ Q (.bl (!decide (x = .non))) H) dIsNot := by
  intro x y a b H Z Q σ z ra rb h
  cases rb with
  | non =>
    rw [dIsNot_n, ra.isN] at h
    exact ⟨rfl, Post.ok (R := RE S) h (.bl _)⟩
  | _ => cases a <;> exact False.elim h
theorem se_is (ha : SemE S a fa) (hb : SemE S b fb) : SemE S (.Compare a [.Is] [b] pos) (bi2 dIs fa fb) := se_cmp (fun _ _ => op_isN) o2_is ha hb (nomark _)
theorem se_isnot (ha : SemE S a fa) (hb : SemE S b fb) : SemE S (.Compare a [.IsNot] [b] pos) (bi2 dIsNot fa fb) := se_cmp (fun _ _ => op_notN) o2_isnot ha hb (nomark _)
theorem st_is (ha : SemE S a fa) (hb : SemE S b fb) : SemT S (.Compare a [.Is] [b] pos) (asB (bi2 dIs fa fb)) := st_cmp (fun _ _ => op_isN) o2_is ha hb (nomark _)
theorem st_isnot (ha : SemE S a fa) (hb : SemE S b fb) : SemT S (.Compare a [.IsNot] [b] pos) (asB (bi2 dIsNot fa fb)) := st_cmp (fun _ _ => op_notN) o2_isnot ha hb (nomark _)
/-- a op b op' c -/
def chn (g g' : D → D → Rv D) (fa fb fc : Vw → Rv D) (η : Vw) : Rv D := (fa η).bind fun a => (fb η).bind fun b => (g a b).bind fun k => match k with
  | .bool true => (fc η).bind fun c => g' b c
  | .bool false => .ok (.bool false)
  | _ => .un
theorem chn_run {r r' : R2} {g g' : D → D → Rv D} {ta tb tc : TE} (hr : Op2 S r g) (hr' : Op2 S r' g') (ha : Tells S (RE S) ta fa) (hb : Tells S (RE S) tb fb) (hc : Tells S (RE S) tc fc) : Tells S (RE S) (tChain r r' ta tb tc) (chn g g' fa fb fc) := by
  intro η σ H Z Q z hη h
  refine ha η σ H Z _ z hη (Post.bind h fun a x H1 _ e1 r1 h1 => ?_)
  refine hb η σ H1 Z _ (z.gr e1) (hη.gr (e1.hid Z)) (Post.bind h1 fun b y H2 _ e2 r2 h2 => ?_)
  refine hr x y a b H2 Z _ σ ((z.gr e1).gr e2) (r1.gr (e2.hid Z)) r2 (Post.bind h2 fun k v H3 _ e3 r3 h3 => ?_)
  cases r3 with
  | bl k =>
    refine ⟨k, rfl, ?_⟩
    cases k with
    | true => exact hc η σ H3 Z _ (((z.gr e1).gr e2).gr e3) (hη.gr (((e1.trans e2).trans e3).hid Z)) (Post.bind h3 fun c w H4 _ e4 r4 h4 => hr' y w b c H4 Z Q σ ((((z.gr e1).gr e2).gr e3).gr e4) (r2.gr ((e3.trans e4).hid Z)) r4 h4)
    | false => exact Post.ok (R := RE S) h3 (.bl false)
  | _ => exact False.elim h3
theorem se_chain {op op' : CmpOp} {r r' : R2} {g g' : D → D → Rv D} (ho : ∀ X, S.At X → OpR X (compareOp op) r) (ho' : ∀ X, S.At X → OpR X (compareOp op') r') (hr : Op2 S r g) (hr' : Op2 S r' g') (ha : SemE S a fa) (hb : SemE S b fb) (hc : SemE S c fc)
    (hm : lastMarks [op, op'] [b, c] = false := by with_unfolding_all rfl) : SemE S (.Compare a [op, op'] [b, c] pos) (chn g g' fa fb fc) := by
  obtain ⟨ta, pa, qa⟩ := ha.ex
  obtain ⟨tb, pb, qb⟩ := hb.ex
  obtain ⟨tc, pc, qc⟩ := hc.ex
  exact ⟨⟨_, fun X hX => pe_chain (ho X hX) (ho' X hX) (pa X hX) (pb X hX) (pc X hX) hm, chn_run hr hr' qa qb qc⟩⟩
theorem st_chain {op op' : CmpOp} {r r' : R2} {g g' : D → D → Rv D} (ho : ∀ X, S.At X → OpR X (compareOp op) r) (ho' : ∀ X, S.At X → OpR X (compareOp op') r') (hr : Op2 S r g) (hr' : Op2 S r' g') (ha : SemE S a fa) (hb : SemE S b fb) (hc : SemE S c fc)
    (hm : lastMarks [op, op'] [b, c] = false := by with_unfolding_all rfl) : SemT S (.Compare a [op, op'] [b, c] pos) (asB (chn g g' fa fb fc)) := by
  obtain ⟨ta, pa, qa⟩ := ha.ex
  obtain ⟨tb, pb, qb⟩ := hb.ex
  obtain ⟨tc, pc, qc⟩ := hc.ex
  exact ⟨⟨_, fun X hX => pt_chain (ho X hX) (ho' X hX) (pa X hX) (pb X hX) (pc X hX) hm, asB_run (chn_run hr hr' qa qb qc)⟩⟩

/-! ### a[i] -/
def dIx : D → D → Rv D
  | .list xs, .int i => match atI xs i with | some d => .ok d | none => .un
  | .tuple xs, .int i => match atI xs i with | some d => .ok d | none => .un
  | .str z, .int i => if z.length ≤ 16000000 then match atI z.cps.toList i with | some c => .ok (.str ⟨#[c]⟩) | none => .un else .un
  | _, _ => .un
theorem dIx_l (xs : List D) (i : Int) : dIx (.list xs) (.int i) = match atI xs i with | some d => .ok d | none => .un := rfl
theorem dIx_t (xs : List D) (i : Int) : dIx (.tuple xs) (.int i) = match atI xs i with | some d => .ok d | none => .un := rfl
theorem dIx_s (z : Str) (i : Int) : dIx (.str z) (.int i) = if z.length ≤ 16000000 then match atI z.cps.toList i with | some c => .ok (.str ⟨#[c]⟩) | none => .un else .un := rfl
theorem RpA.atI {c : Cz} {H : Hp} {vs : List V} {ds : List D} {i : Int} {d : D} (r : RpA c H vs ds) (h : L2.atI ds i = some d) : ∃ v, L2.atI vs i = some v ∧ Rp c H v d := by
  unfold L2.atI at h ⊢
  rw [RpA.length r]
  cases e : ixN ds.length i with
  | none => rw [e] at h; cases h
  | some j =>
    rw [e] at h
    exact RpA.get r h
theorem o2_ix : Op2 S (rIx S.K) dIx := by
  intro x y a b H Z Q σ z ra rb h
  cases rb with
  | int i =>
    cases ra with
    | lst h1 r1 =>
      rw [dIx_l] at h
      split at h
      · rename_i d e
        obtain ⟨v, ev, rv⟩ := RpA.atI r1 e
        exact .inl ⟨_, _, i, v, rfl, rfl, ((Gr.hid_le H Z).rdl h1).sq, ev, Post.ok (R := RE S) h rv⟩
      · exact False.elim h
    | tup h1 r1 =>
      rw [dIx_t] at h
      split at h
      · rename_i d e
        obtain ⟨v, ev, rv⟩ := RpA.atI r1 e
        exact .inr (.inl ⟨_, _, i, v, rfl, rfl, (Gr.hid_le H Z).sqT h1, ev, Post.ok (R := RE S) h rv⟩)
      · exact False.elim h
    | str x =>
      rw [dIx_s] at h
      split at h
      · rename_i hl
        split at h
        · rename_i cc e
          exact .inr (.inr ⟨x, i, cc, rfl, rfl, line_ge hl, e, Post.ok (R := RE S) h (.str _)⟩)
        · exact False.elim h
      · exact False.elim h
    | _ => exact False.elim h
  | _ => cases a <;> exact False.elim h
theorem se_ix (ha : SemE S a fa) (hb : SemE S b fb) (hs : PlainIx b := by intro _ _; rfl) : SemE S (.Subscript a b pos) (bi2 dIx fa fb) := by
  obtain ⟨ta, pa, qa⟩ := ha.ex
  obtain ⟨tb, pb, qb⟩ := hb.ex
  exact ⟨⟨_, fun X hX => pe_ix (hX.hK ▸ ix_seq) (pa X hX) (pb X hX) hs, bin_run o2_ix qa qb⟩⟩

/-! ### a[lo:hi] -/
def onone (_ : Vw) : Rv (Option Int) := .ok none
def osome (f : Vw → Rv D) (η : Vw) : Rv (Option Int) := (f η).bind fun d => match d with | .int i => .ok (some i) | _ => .un
theorem so_none : SemO S none onone := ⟨⟨_, fun _ _ => po_none, fun _ _ _ _ _ _ _ h => Post.ok (R := RO) h rfl⟩⟩
theorem so_some {e : Expr} {f : Vw → Rv D} (h : SemE S e f) : SemO S (some e) (osome f) := by
  obtain ⟨t, p, q⟩ := h.ex
  refine ⟨⟨_, fun X hX => po_some (p X hX), fun η σ H Z Q z hη h => ?_⟩⟩
  refine q η σ H Z _ z hη (Post.bind h fun d x H1 _ e1 r1 h1 => ?_)
  cases r1 with
  | int i => exact ⟨i, rfl, Post.ok (R := RO) h1 rfl⟩
  | _ => exact False.elim h1
def cutD (xs : List D) (lo hi : Option Int) : List D := (xs.drop (HT.sIx xs.length 0 lo)).take (HT.sIx xs.length xs.length hi - HT.sIx xs.length 0 lo)
theorem RpA.cut {c : Cz} {H : Hp} {vs : List V} {ds : List D} (r : RpA c H vs ds) (lo hi : Option Int) : RpA c H (cutV vs lo hi) (cutD ds lo hi) := by
  unfold cutV cutD
  rw [RpA.length r]
  exact RpA.take _ (RpA.drop _ r)
def rSlAll (K : PySem.W.Frag) : V → Option Int → Option Int → Hp → VK → Prop := fun x lo hi H Q => rSlL K x lo hi H Q ∨ rSlA K x lo hi H Q
theorem sl_all : SlR X (rSlAll X.K) := sl_list.or sl_tupA
def dSl : D → Option Int → Option Int → Rv D
  | .list xs, lo, hi => .ok (.list (cutD xs lo hi))
  | .tuple xs, lo, hi => .ok (.tuple (cutD xs lo hi))
  | _, _, _ => .un
@[simp] theorem dSl_l (xs : List D) (lo hi : Option Int) : dSl (.list xs) lo hi = .ok (.list (cutD xs lo hi)) := rfl
@[simp] theorem dSl_t (xs : List D) (lo hi : Option Int) : dSl (.tuple xs) lo hi = .ok (.tuple (cutD xs lo hi)) := rfl
def slc (f : Vw → Rv D) (l u : Vw → Rv (Option Int)) (η : Vw) : Rv D := (f η).bind fun d => (l η).bind fun lo => (u η).bind fun hi => dSl d lo hi
theorem cut_whole {c : Cz} {H : Hp} {vs : List V} {ds : List D} {lo hi : Option Int} (r : RpA c H vs ds) (h : HT.sIx vs.length 0 lo = 0 ∧ HT.sIx vs.length vs.length hi = vs.length) : cutD ds lo hi = ds := by
  unfold cutD
  rw [RpA.length r] at h
  rw [h.1, h.2, List.drop_zero, Nat.sub_zero, List.take_length]
theorem se_slice {lo hi : Option Expr} {fl fh : Vw → Rv (Option Int)} {p2 : Pos} (ha : SemE S a fa) (hl : SemO S lo fl) (hh : SemO S hi fh) : SemE S (.Subscript a (.Slice lo hi none p2) pos) (slc fa fl fh) := by
  obtain ⟨ta, pa, qa⟩ := ha.ex
  obtain ⟨tl, pl, ql⟩ := hl.ex
  obtain ⟨th, ph, qh⟩ := hh.ex
  refine ⟨⟨_, fun X hX => pe_slice (r := rSlAll S.K) (hX.hK ▸ sl_all) (pa X hX) (pl X hX) (ph X hX), fun η σ H Z Q z hη h => ?_⟩⟩
  refine qa η σ H Z _ z hη (Post.bind h fun d x H1 _ e1 r1 h1 => ?_)
  refine ql η σ H1 Z _ (z.gr e1) (hη.gr (e1.hid Z)) (Post.bind h1 fun l y H2 _ e2 r2 h2 => ?_)
  refine qh η σ H2 Z _ ((z.gr e1).gr e2) (hη.gr ((e1.trans e2).hid Z)) (Post.bind h2 fun u w H3 _ e3 r3 h3 => ?_)
  cases (show y = l from r2)
  cases (show w = u from r3)
  have z3 := ((z.gr e1).gr e2).gr e3
  have r4 := r1.gr ((e2.trans e3).hid Z)
  cases r4 with
  | lst q1 q2 => exact .inl ⟨_, _, rfl, ((Gr.hid_le H3 Z).rdl q1).sq, fun p hp => Post.newL z3 h3 (RpA.cut q2 _ _) hp⟩
  | tup q1 q2 =>
    refine .inr ⟨_, _, rfl, (Gr.hid_le H3 Z).sqT q1, fun hw => ?_, fun _ p hp => Post.newT z3 h3 (RpA.cut q2 _ _) hp⟩
    have h4 : Post S (RE S) σ Z H3 Q (.ok (.tuple (cutD _ _ _))) := h3
    rw [cut_whole q2 hw] at h4
    exact Post.ok (R := RE S) h4 (.tup q1 q2)
  | _ => exact False.elim h3
end
end Bv

namespace Bv
open PySem PySem.Spec L2 PyProof.Rows

/-! ### what the slots hold: nothing, data that stands, data of one's own (n lists deep: a tree that no other knows) -/
inductive Sl where
  | un | fz (d : D) | ow (n : Nat) (d : D)
abbrev Env' := List Sl
mutual
inductive Tree (c : Cz) (Hv H : Hp) : Nat → V → D → List Addr → Prop
  | leaf0 {v : V} {d : D} : Rp c Hv v d → Tree c Hv H 0 v d []
  | leaf {n : Nat} {v : V} {d : D} : imm d = true → Rp c Hv v d → Tree c Hv H n v d []
  | lst {n : Nat} {a : Addr} {xs : List V} {ds : List D} {U : List Addr} : H a = some (.lst xs) → TreeA c Hv H n xs ds U → a ∉ U → Tree c Hv H (n + 1) (.ref a) (.list ds) (a :: U)
  | tup {n : Nat} {a : Addr} {xs : List V} {ds : List D} {U : List Addr} : SqT c.K Hv a xs → TreeA c Hv H (n + 1) xs ds U → Tree c Hv H (n + 1) (.ref a) (.tuple ds) U
  | dctK {n : Nat} {a : Addr} {kvs : List (Key × V)} {ds : List (D × D)} {U : List Addr} : H a = some (.dK kvs) → TreeK c Hv H n kvs ds U → a ∉ U → Tree c Hv H (n + 1) (.ref a) (.dict ((.none, .int 0) :: ds)) (a :: U)
  | dctN {n : Nat} {a : Addr} {o : Obj} {xs : List (NestedKey × Addr × V)} {ds : List (D × D)} {U : List Addr} : H a = some (rawO a o) → DN c a o xs → TreeN c Hv H n xs ds U → a ∉ U → Tree c Hv H (n + 1) (.ref a) (.dict ((.none, .int 1) :: ds)) (a :: U)
inductive TreeA (c : Cz) (Hv H : Hp) : Nat → List V → List D → List Addr → Prop
  | nil {n : Nat} : TreeA c Hv H n [] [] []
  | cons {n : Nat} {v : V} {vs : List V} {d : D} {ds : List D} {U W : List Addr} : Tree c Hv H n v d U → TreeA c Hv H n vs ds W → (∀ a ∈ U, a ∉ W) → TreeA c Hv H n (v :: vs) (d :: ds) (U ++ W)
inductive TreeK (c : Cz) (Hv H : Hp) : Nat → List (Key × V) → List (D × D) → List Addr → Prop
  | nil {n : Nat} : TreeK c Hv H n [] [] []
  | cons {n : Nat} {k : Key} {v : V} {vs : List (Key × V)} {d : D} {ds : List (D × D)} {U W : List Addr} : Tree c Hv H n v d U → TreeK c Hv H n vs ds W → (∀ a ∈ U, a ∉ W) → TreeK c Hv H n ((k, v) :: vs) ((kD k, d) :: ds) (U ++ W)
inductive TreeN (c : Cz) (Hv H : Hp) : Nat → List (NestedKey × Addr × V) → List (D × D) → List Addr → Prop
  | nil {n : Nat} : TreeN c Hv H n [] [] []
  | cons {n : Nat} {k : NestedKey} {b : Addr} {v : V} {vs : List (NestedKey × Addr × V)} {e d : D} {ds : List (D × D)} {U W : List Addr} : Rp c Hv (.ref b) e → dkey e = some k → Tree c Hv H n v d U → TreeN c Hv H n vs ds W → (∀ a ∈ U, a ∉ W) → TreeN c Hv H n ((k, b, v) :: vs) ((e, d) :: ds) (U ++ W)
end
section
variable {c : Cz} {Hv Hv' H H' : Hp}
mutual
theorem Tree.gr (e : Gr Hv Hv') : ∀ {n : Nat} {v : V} {d : D} {U : List Addr}, (∀ a ∈ U, H' a = H a) → Tree c Hv H n v d U → Tree c Hv' H' n v d U
  | _, _, _, _, _, .leaf0 r => .leaf0 (r.gr e)
  | _, _, _, _, _, .leaf i r => .leaf i (r.gr e)
  | _, _, _, _, k, .lst h1 h2 h3 => .lst ((k _ List.mem_cons_self).trans h1) (TreeA.gr e (fun a h => k a (List.mem_cons_of_mem _ h)) h2) h3
  | _, _, _, _, k, .tup h1 h2 => .tup (e.sqT h1) (TreeA.gr e k h2)
  | _, _, _, _, k, .dctK h1 h2 h3 => .dctK ((k _ List.mem_cons_self).trans h1) (TreeK.gr e (fun a h => k a (List.mem_cons_of_mem _ h)) h2) h3
  | _, _, _, _, k, .dctN h1 h2 h3 h4 => .dctN ((k _ List.mem_cons_self).trans h1) h2 (TreeN.gr e (fun a h => k a (List.mem_cons_of_mem _ h)) h3) h4
theorem TreeA.gr (e : Gr Hv Hv') : ∀ {n : Nat} {v : List V} {d : List D} {U : List Addr}, (∀ a ∈ U, H' a = H a) → TreeA c Hv H n v d U → TreeA c Hv' H' n v d U
  | _, _, _, _, _, .nil => .nil
  | _, _, _, _, k, .cons h1 h2 h3 => .cons (Tree.gr e (fun a h => k a (List.mem_append_left _ h)) h1) (TreeA.gr e (fun a h => k a (List.mem_append_right _ h)) h2) h3
theorem TreeK.gr (e : Gr Hv Hv') : ∀ {n : Nat} {v : List (Key × V)} {d : List (D × D)} {U : List Addr}, (∀ a ∈ U, H' a = H a) → TreeK c Hv H n v d U → TreeK c Hv' H' n v d U
  | _, _, _, _, _, .nil => .nil
  | _, _, _, _, k, .cons h1 h2 h3 => .cons (Tree.gr e (fun a h => k a (List.mem_append_left _ h)) h1) (TreeK.gr e (fun a h => k a (List.mem_append_right _ h)) h2) h3
theorem TreeN.gr (e : Gr Hv Hv') : ∀ {n : Nat} {v : List (NestedKey × Addr × V)} {d : List (D × D)} {U : List Addr}, (∀ a ∈ U, H' a = H a) → TreeN c Hv H n v d U → TreeN c Hv' H' n v d U
  | _, _, _, _, _, .nil => .nil
  | _, _, _, _, k, .cons q1 q2 h1 h2 h3 => .cons (q1.gr e) q2 (Tree.gr e (fun a h => k a (List.mem_append_left _ h)) h1) (TreeN.gr e (fun a h => k a (List.mem_append_right _ h)) h2) h3
end
mutual
theorem Tree.rp (e : Gr Hv Hv') : ∀ {n : Nat} {v : V} {d : D} {U : List Addr}, (∀ a ∈ U, Hv' a = H a) → Tree c Hv H n v d U → Rp c Hv' v d
  | _, _, _, _, _, .leaf0 r => r.gr e
  | _, _, _, _, _, .leaf i r => r.gr e
  | _, _, _, _, k, .lst h1 h2 h3 => .lst (.inl (.inl ((k _ List.mem_cons_self).trans h1))) (TreeA.rp e (fun a h => k a (List.mem_cons_of_mem _ h)) h2)
  | _, _, _, _, k, .tup h1 h2 => .tup (e.sqT h1) (TreeA.rp e k h2)
  | _, _, _, _, k, .dctK h1 h2 h3 => .dctK (.inl ((k _ List.mem_cons_self).trans h1)) (TreeK.rp e (fun a h => k a (List.mem_cons_of_mem _ h)) h2)
  | _, _, _, _, k, .dctN h1 h2 h3 h4 => .dctN ((k _ List.mem_cons_self).trans h1) h2 (TreeN.rp e (fun a h => k a (List.mem_cons_of_mem _ h)) h3)
theorem TreeA.rp (e : Gr Hv Hv') : ∀ {n : Nat} {v : List V} {d : List D} {U : List Addr}, (∀ a ∈ U, Hv' a = H a) → TreeA c Hv H n v d U → RpA c Hv' v d
  | _, _, _, _, _, .nil => .nil
  | _, _, _, _, k, .cons h1 h2 h3 => .cons (Tree.rp e (fun a h => k a (List.mem_append_left _ h)) h1) (TreeA.rp e (fun a h => k a (List.mem_append_right _ h)) h2)
theorem TreeK.rp (e : Gr Hv Hv') : ∀ {n : Nat} {v : List (Key × V)} {d : List (D × D)} {U : List Addr}, (∀ a ∈ U, Hv' a = H a) → TreeK c Hv H n v d U → RpK c Hv' v d
  | _, _, _, _, _, .nil => .nil
  | _, _, _, _, k, .cons h1 h2 h3 => .cons (Tree.rp e (fun a h => k a (List.mem_append_left _ h)) h1) (TreeK.rp e (fun a h => k a (List.mem_append_right _ h)) h2)
theorem TreeN.rp (e : Gr Hv Hv') : ∀ {n : Nat} {v : List (NestedKey × Addr × V)} {d : List (D × D)} {U : List Addr}, (∀ a ∈ U, Hv' a = H a) → TreeN c Hv H n v d U → RpN c Hv' v d
  | _, _, _, _, _, .nil => .nil
  | _, _, _, _, k, .cons q1 q2 h1 h2 h3 => .cons (q1.gr e) q2 (Tree.rp e (fun a h => k a (List.mem_append_left _ h)) h1) (TreeN.rp e (fun a h => k a (List.mem_append_right _ h)) h2)
end
/-- what may stand at a place of one's own -/
def OwnO (o : HO) : Prop := (∃ xs, o = .lst xs) ∨ (∃ kvs, o = .dK kvs) ∨ ∃ a ob, o = rawO a ob
theorem rawO_tup {a : Addr} {ob : Obj} {xs : List V} : rawO a ob ≠ .tup xs := fun z => by
  have z' : HO.ext _ = HO.tup xs := z
  cases z'
theorem rawO_frz {a : Addr} {ob o : Obj} {u : HO} : rawO a ob ≠ .frz o u := fun z => by
  have z' : HO.ext _ = HO.frz o u := z
  cases z'
theorem OwnO.notT {o : HO} (h : OwnO o) : NotT (Option.some o) := by
  rcases h with ⟨_, rfl⟩ | ⟨_, rfl⟩ | ⟨_, _, rfl⟩
  · exact fun xs => ⟨(fun z => by cases z), (fun ob z => by cases z)⟩
  · exact fun xs => ⟨(fun z => by cases z), (fun ob z => by cases z)⟩
  · exact fun xs => ⟨(fun z => rawO_tup (Option.some.inj z)), (fun ob z => rawO_frz (Option.some.inj z))⟩
mutual
theorem Tree.lists : ∀ {n : Nat} {v : V} {d : D} {U : List Addr}, Tree c Hv H n v d U → ∀ a ∈ U, ∃ o, H a = some o ∧ OwnO o
  | _, _, _, _, .leaf0 _ => fun _ h => by cases h
  | _, _, _, _, .leaf _ _ => fun _ h => by cases h
  | _, _, _, _, .lst h1 h2 h3 => fun a h => by
    rcases List.mem_cons.mp h with rfl | h
    · exact ⟨_, h1, .inl ⟨_, rfl⟩⟩
    · exact TreeA.lists h2 a h
  | _, _, _, _, .tup h1 h2 => TreeA.lists h2
  | _, _, _, _, .dctK h1 h2 h3 => fun a h => by
    rcases List.mem_cons.mp h with rfl | h
    · exact ⟨_, h1, .inr (.inl ⟨_, rfl⟩)⟩
    · exact TreeK.lists h2 a h
  | _, _, _, _, .dctN h1 h2 h3 h4 => fun a h => by
    rcases List.mem_cons.mp h with rfl | h
    · exact ⟨_, h1, .inr (.inr ⟨_, _, rfl⟩)⟩
    · exact TreeN.lists h3 a h
theorem TreeA.lists : ∀ {n : Nat} {v : List V} {d : List D} {U : List Addr}, TreeA c Hv H n v d U → ∀ a ∈ U, ∃ o, H a = some o ∧ OwnO o
  | _, _, _, _, .nil => fun _ h => by cases h
  | _, _, _, _, .cons h1 h2 h3 => fun a h => (List.mem_append.mp h).elim (Tree.lists h1 a) (TreeA.lists h2 a)
theorem TreeK.lists : ∀ {n : Nat} {v : List (Key × V)} {d : List (D × D)} {U : List Addr}, TreeK c Hv H n v d U → ∀ a ∈ U, ∃ o, H a = some o ∧ OwnO o
  | _, _, _, _, .nil => fun _ h => by cases h
  | _, _, _, _, .cons h1 h2 h3 => fun a h => (List.mem_append.mp h).elim (Tree.lists h1 a) (TreeK.lists h2 a)
theorem TreeN.lists : ∀ {n : Nat} {v : List (NestedKey × Addr × V)} {d : List (D × D)} {U : List Addr}, TreeN c Hv H n v d U → ∀ a ∈ U, ∃ o, H a = some o ∧ OwnO o
  | _, _, _, _, .nil => fun _ h => by cases h
  | _, _, _, _, .cons _ _ h1 h2 h3 => fun a h => (List.mem_append.mp h).elim (Tree.lists h1 a) (TreeN.lists h2 a)
end
theorem Tree.some {n : Nat} {v : V} {d : D} {U : List Addr} (t : Tree c Hv H n v d U) {a : Addr} (h : a ∈ U) : H a ≠ none := by
  obtain ⟨xs, e, _⟩ := t.lists a h
  rw [e]; exact fun z => by cases z
theorem Tree.notT {n : Nat} {v : V} {d : D} {U : List Addr} (t : Tree c Hv H n v d U) {a : Addr} (h : a ∈ U) : NotT (H a) := by
  obtain ⟨xs, e, q⟩ := t.lists a h
  rw [e]; exact q.notT
theorem TreeA.leaves {vs : List V} : ∀ {ds : List D}, RpA c Hv vs ds → TreeA c Hv H 0 vs ds [] := by
  induction vs with
  | nil => intro ds h; cases h; exact .nil
  | cons v vs ih => intro ds h; cases h with | cons h1 h2 => exact .cons (U := []) (W := []) (.leaf0 h1) (ih h2) (fun a h => by cases h)
end

/-- hidden: Z, and one's own but for the slots M -/
def hz (Z : Addr → Prop) (ρ : Env') (o : Nat → List Addr) (M : List Nat) : Addr → Prop := fun a => Z a ∨ ∃ i n d, ρ[i]? = some (Sl.ow n d) ∧ i ∉ M ∧ a ∈ o i
structure OkAt (c : Cz) (F H0 : Hp) (Z : Addr → Prop) (ρ : Env') (o : Nat → List Addr) (σ : L2.St) (H : Hp) : Prop where
  len : σ.length = ρ.length
  fz : ∀ (i : Nat) (d : D), ρ[i]? = some (.fz d) → ∃ v : V, σ[i]? = some (some v) ∧ Rp c (hid H (hz Z ρ o [])) v d
  ow : ∀ (i n : Nat) (d : D), ρ[i]? = some (.ow n d) → (∃ v : V, σ[i]? = some (some v) ∧ Tree c (hid H (hz Z ρ o [])) H n v d (o i)) ∧ ∀ a ∈ o i, H0 a = none ∧ ¬ Z a
  inj : ∀ (i j n m : Nat) (d e : D), ρ[i]? = some (.ow n d) → ρ[j]? = some (.ow m e) → i ≠ j → ∀ a ∈ o i, a ∉ o j
  gr : Gr H0 H
  fr : Gr F (hid H (hz Z ρ o []))
  zin : In Z H0
def Ok (c : Cz) (F H0 : Hp) (Z : Addr → Prop) (ρ : Env') (σ : L2.St) (H : Hp) : Prop := ∃ o, OkAt c F H0 Z ρ o σ H

/-- the view of the slots, one's own but those in M hidden -/
def vw1 (M : List Nat) (i : Nat) : Sl → Option D
  | .un => none
  | .fz d => some d
  | .ow _ d => if M.contains i then some d else none
theorem vw1_ow (M : List Nat) (i n : Nat) (d : D) : vw1 M i (.ow n d) = if M.contains i = true then some d else none := rfl
def vwF (M : List Nat) : Nat → Env' → Vw
  | _, [] => []
  | k, s :: r => vw1 M k s :: vwF M (k + 1) r
def vw (M : List Nat) (ρ : Env') : Vw := vwF M 0 ρ
theorem vwF_get (M : List Nat) : ∀ (ρ : Env') (k i : Nat), (vwF M k ρ)[i]? = (ρ[i]?).map (vw1 M (k + i))
  | [], _, _ => by simp [vwF]
  | s :: r, k, 0 => by simp [vwF]
  | s :: r, k, i + 1 => by
    rw [vwF, List.getElem?_cons_succ, vwF_get M r (k + 1) i, List.getElem?_cons_succ]
    rw [show k + 1 + i = k + (i + 1) by omega]
theorem vw_length (M : List Nat) (ρ : Env') : (vw M ρ).length = ρ.length := by
  have : ∀ (ρ : Env') (k : Nat), (vwF M k ρ).length = ρ.length := by
    intro ρ
    induction ρ with
    | nil => intro k; rfl
    | cons s r ih => intro k; simp [vwF, ih]
  exact this ρ 0
theorem vw_get (M : List Nat) (ρ : Env') (i : Nat) : (vw M ρ)[i]? = (ρ[i]?).map (vw1 M i) := by
  rw [vw, vwF_get, Nat.zero_add]
/-- one's own in M given up -/
def frz1 (M : List Nat) (i : Nat) : Sl → Sl
  | .ow n d => if M.contains i then .fz d else .ow n d
  | s => s
theorem frz1_ow (M : List Nat) (i n : Nat) (d : D) : frz1 M i (.ow n d) = if M.contains i = true then .fz d else .ow n d := rfl
def frzF (M : List Nat) : Nat → Env' → Env'
  | _, [] => []
  | k, s :: r => frz1 M k s :: frzF M (k + 1) r
def frz (M : List Nat) (ρ : Env') : Env' := frzF M 0 ρ
theorem frzF_get (M : List Nat) : ∀ (ρ : Env') (k i : Nat), (frzF M k ρ)[i]? = (ρ[i]?).map (frz1 M (k + i))
  | [], _, _ => by simp [frzF]
  | s :: r, k, 0 => by simp [frzF]
  | s :: r, k, i + 1 => by
    rw [frzF, List.getElem?_cons_succ, frzF_get M r (k + 1) i, List.getElem?_cons_succ]
    rw [show k + 1 + i = k + (i + 1) by omega]
theorem frz_get (M : List Nat) (ρ : Env') (i : Nat) : (frz M ρ)[i]? = (ρ[i]?).map (frz1 M i) := by
  rw [frz, frzF_get, Nat.zero_add]
theorem frz_length (M : List Nat) (ρ : Env') : (frz M ρ).length = ρ.length := by
  have : ∀ (ρ : Env') (k : Nat), (frzF M k ρ).length = ρ.length := by
    intro ρ
    induction ρ with
    | nil => intro k; rfl
    | cons s r ih => intro k; simp [frzF, ih]
  exact this ρ 0
theorem frz_ow {M : List Nat} {ρ : Env'} {i n : Nat} {d : D} (h : (frz M ρ)[i]? = some (.ow n d)) : ρ[i]? = some (.ow n d) ∧ i ∉ M := by
  rw [frz_get] at h
  cases e : ρ[i]? with
  | none => rw [e] at h; cases h
  | some s =>
    rw [e] at h
    cases s with
    | un => cases h
    | fz x => cases h
    | ow m x =>
      have h' : frz1 M i (.ow m x) = .ow n d := Option.some.inj h
      rw [frz1_ow] at h'
      split at h'
      · cases h'
      · rename_i hm
        cases h'
        exact ⟨rfl, by simpa using hm⟩
theorem frz_fz {M : List Nat} {ρ : Env'} {i : Nat} {d : D} (h : (frz M ρ)[i]? = some (.fz d)) : ρ[i]? = some (.fz d) ∨ ((∃ n, ρ[i]? = some (.ow n d)) ∧ i ∈ M) := by
  rw [frz_get] at h
  cases e : ρ[i]? with
  | none => rw [e] at h; cases h
  | some s =>
    rw [e] at h
    cases s with
    | un => cases h
    | fz x => cases h; exact .inl rfl
    | ow m x =>
      have h' : frz1 M i (.ow m x) = .fz d := Option.some.inj h
      rw [frz1_ow] at h'
      split at h'
      · rename_i hm
        cases h'
        exact .inr ⟨⟨m, rfl⟩, by simpa using hm⟩
      · cases h'
theorem frz_of {M : List Nat} {ρ : Env'} {i n : Nat} {d : D} (h : ρ[i]? = some (.ow n d)) (hm : i ∉ M) : (frz M ρ)[i]? = some (.ow n d) := by
  rw [frz_get, h]
  show some (frz1 M i (.ow n d)) = _
  rw [frz1_ow, if_neg (by simpa using hm)]

section
variable {c : Cz} {F H0 H H' : Hp} {Z : Addr → Prop} {ρ : Env'} {o : Nat → List Addr} {σ : L2.St} {M : List Nat}
theorem hz_mono {M' : List Nat} (h : ∀ i ∈ M', i ∈ M) {a : Addr} (q : hz Z ρ o M a) : hz Z ρ o M' a := q.imp id fun ⟨i, n, d, h1, h2, h3⟩ => ⟨i, n, d, h1, fun z => h2 (h i z), h3⟩
theorem hz_nil {a : Addr} (q : hz Z ρ o M a) : hz Z ρ o [] a := hz_mono (by simp) q
theorem OkAt.hin (k : OkAt c F H0 Z ρ o σ H) : In (hz Z ρ o M) H := fun a h => by
  rcases h with h | ⟨i, n, d, h1, _, h3⟩
  · exact k.zin.gr k.gr a h
  · obtain ⟨⟨v, _, t⟩, _⟩ := k.ow i n d h1
    exact t.some h3
/-- growing -/
theorem OkAt.grow (k : OkAt c F H0 Z ρ o σ H) (e : Gr H H') : OkAt c F H0 Z ρ o σ H' where
  len := k.len
  fz := fun i d h => let ⟨v, h1, h2⟩ := k.fz i d h; ⟨v, h1, h2.gr (e.hid _)⟩
  ow := fun i n d h => by
    obtain ⟨⟨v, h1, t⟩, h2⟩ := k.ow i n d h
    refine ⟨⟨v, h1, t.gr (e.hid _) fun a ha => ?_⟩, h2⟩
    cases q : H a with
    | none => exact absurd q (t.some ha)
    | some u => exact e _ _ q
  inj := k.inj
  gr := k.gr.trans e
  fr := k.fr.trans (e.hid _)
  zin := k.zin
/-- one's own, seen -/
theorem OkAt.rpM (k : OkAt c F H0 Z ρ o σ H) {i n : Nat} {d : D} {v : V} (h : ρ[i]? = some (.ow n d)) (hm : i ∈ M) (t : Tree c (hid H (hz Z ρ o [])) H n v d (o i)) : Rp c (hid H (hz Z ρ o M)) v d := by
  have e : Gr (hid H (hz Z ρ o [])) (hid H (hz Z ρ o M)) := (Gr.refl H).hid2 fun a => hz_nil
  refine t.rp e fun a ha => hid_no fun z => ?_
  rcases z with z | ⟨j, m, d', j1, j2, j3⟩
  · exact ((k.ow i n d h).2 a ha).2 z
  · exact k.inj i j n m d d' h j1 (fun q => j2 (q ▸ hm)) a ha j3
/-- the view is right -/
theorem OkAt.view (k : OkAt c F H0 Z ρ o σ H) : Vok c (hid H (hz Z ρ o M)) (vw M ρ) σ := by
  refine ⟨by rw [vw_length, k.len]; exact Nat.le_refl _, ?_⟩
  intro i d h
  rw [vw_get] at h
  have e : Gr (hid H (hz Z ρ o [])) (hid H (hz Z ρ o M)) := (Gr.refl H).hid2 fun a => hz_nil
  cases q : ρ[i]? with
  | none => rw [q] at h; cases h
  | some s =>
    rw [q] at h
    have h : vw1 M i s = some d := Option.some.inj h
    cases s with
    | un => cases h
    | fz x =>
      cases h
      obtain ⟨v, h1, h2⟩ := k.fz i _ q
      exact ⟨v, h1, h2.gr e⟩
    | ow n x =>
      rw [vw1_ow] at h
      split at h
      · rename_i hm
        cases h
        obtain ⟨⟨v, h1, t⟩, h2⟩ := k.ow i n d q
        exact ⟨v, h1, k.rpM q (by simpa using hm) t⟩
      · cases h
/-- M given up -/
theorem hz_frz (a : Addr) : hz Z (frz M ρ) o [] a ↔ hz Z ρ o M a := by
  constructor
  · rintro (h | ⟨i, n, d, h1, h2, h3⟩)
    · exact .inl h
    · exact .inr ⟨i, n, d, (frz_ow h1).1, (frz_ow h1).2, h3⟩
  · rintro (h | ⟨i, n, d, h1, h2, h3⟩)
    · exact .inl h
    · exact .inr ⟨i, n, d, frz_of h1 h2, by simp, h3⟩
theorem hid_frz : hid H (hz Z (frz M ρ) o []) = hid H (hz Z ρ o M) := by
  have : hz Z (frz M ρ) o [] = hz Z ρ o M := funext fun a => propext (hz_frz a)
  rw [this]
theorem OkAt.freeze (k : OkAt c F H0 Z ρ o σ H) (M : List Nat) : OkAt c F H0 Z (frz M ρ) o σ H := by
  have e : Gr (hid H (hz Z ρ o [])) (hid H (hz Z (frz M ρ) o [])) := by
    rw [hid_frz]
    exact (Gr.refl H).hid2 fun a => hz_nil
  refine ⟨by rw [frz_length]; exact k.len, fun i d h => ?_, fun i n d h => ?_, fun i j n m d d' h1 h2 q => k.inj i j _ _ _ _ (frz_ow h1).1 (frz_ow h2).1 q, k.gr, k.fr.trans e, k.zin⟩
  · rcases frz_fz h with h | ⟨⟨n, h⟩, hm⟩
    · obtain ⟨v, h1, h2⟩ := k.fz i d h
      exact ⟨v, h1, h2.gr e⟩
    · obtain ⟨⟨v, h1, t⟩, h2⟩ := k.ow i n d h
      refine ⟨v, h1, ?_⟩
      rw [hid_frz]
      exact k.rpM h hm t
  · obtain ⟨⟨v, h1, t⟩, h2⟩ := k.ow i n d (frz_ow h).1
    exact ⟨⟨v, h1, t.gr e fun _ _ => rfl⟩, h2⟩
theorem set_ow {i j n : Nat} {s : Sl} {d : D} (h : (ρ.set i s)[j]? = some (.ow n d)) (hs : ∀ n e, s ≠ .ow n e) : ρ[j]? = some (.ow n d) ∧ j ≠ i := by
  by_cases e : i = j
  · subst e
    rw [List.getElem?_set] at h
    split at h
    · split at h
      · cases h; exact absurd rfl (hs n d)
      · cases h
    · contradiction
  · rw [List.getElem?_set_ne e] at h
    exact ⟨h, Ne.symm e⟩
/-- a slot is stored: data that stands in what is seen -/
theorem OkAt.put (k : OkAt c F H0 Z ρ o σ H) {i : Nat} {v : V} {d : D} (r : Rp c (hid H (hz Z ρ o [])) v d) : OkAt c F H0 Z (ρ.set i (.fz d)) o (σ.set i (some v)) H := by
  have sub : ∀ a, hz Z (ρ.set i (.fz d)) o [] a → hz Z ρ o [] a := fun a h => h.imp id fun ⟨j, n, e, h1, h2, h3⟩ => ⟨j, n, e, (set_ow h1 (fun _ _ z => by cases z)).1, h2, h3⟩
  have e : Gr (hid H (hz Z ρ o [])) (hid H (hz Z (ρ.set i (.fz d)) o [])) := (Gr.refl H).hid2 sub
  refine ⟨by simp [k.len], fun j x h => ?_, fun j n x h => ?_, fun j1 j2 _ _ _ _ h1 h2 q => k.inj j1 j2 _ _ _ _ (set_ow h1 (fun _ _ z => by cases z)).1 (set_ow h2 (fun _ _ z => by cases z)).1 q, k.gr, k.fr.trans e, k.zin⟩
  · by_cases q : i = j
    · subst q
      rw [List.getElem?_set] at h
      split at h
      · split at h
        · rename_i hi
          cases h
          exact ⟨v, by rw [List.getElem?_set_self (by rw [k.len]; exact hi)], r.gr e⟩
        · cases h
      · contradiction
    · rw [List.getElem?_set_ne q] at h
      obtain ⟨w, h1, h2⟩ := k.fz j x h
      exact ⟨w, by rw [List.getElem?_set_ne q]; exact h1, h2.gr e⟩
  · obtain ⟨h1, hne⟩ := set_ow h (fun _ _ z => by cases z)
    obtain ⟨⟨w, h2, t⟩, h3⟩ := k.ow j n x h1
    exact ⟨⟨w, by rw [List.getElem?_set_ne (Ne.symm hne)]; exact h2, t.gr e fun _ _ => rfl⟩, h3⟩
/-- what can't change is seen, whatever is hidden -/
theorem OkAt.nt (k : OkAt c F H0 Z ρ o σ H) (a : Addr) (h : hz Z ρ o [] a) : hz Z ρ o M a ∨ NotT (H a) := h.imp (fun z => .inl z) fun ⟨j, n, e, h1, h2, h3⟩ => by
  obtain ⟨⟨v, _, t⟩, _⟩ := k.ow j n e h1
  exact t.notT h3
theorem OkAt.imm (k : OkAt c F H0 Z ρ o σ H) {v : V} {d : D} (i : Bv.imm d = true) (r : Rp c (hid H (hz Z ρ o M)) v d) : Rp c (hid H (hz Z ρ o [])) v d := Rp.un (fun a h => k.nt a h) i r
theorem OkAt.immA (k : OkAt c F H0 Z ρ o σ H) {vs : List V} {ds : List D} (i : Bv.immA ds = true) (r : RpA c (hid H (hz Z ρ o M)) vs ds) : RpA c (hid H (hz Z ρ o [])) vs ds := RpA.un (fun a h => k.nt a h) i r
/-- a new tree of one's own is stored -/
theorem OkAt.layT (k : OkAt c F H0 Z ρ o σ H) {i n : Nat} {v : V} {U : List Addr} {d : D} (e0 : Gr H H') (hU : ∀ a ∈ U, H a = none) (hi : i < ρ.length) (r : ∀ Hv, Gr (hid H' fun a => hz Z ρ o [] a ∨ a ∈ U) Hv → Tree c Hv H' n v d U) :
    OkAt c F H0 Z (ρ.set i (.ow n d)) (fun j => if j = i then U else o j) (σ.set i (some v)) H' := by
  have hd : hz Z ρ o [] = hz Z ρ o [] := rfl
  have old : ∀ {j m x a}, ρ[j]? = some (Sl.ow m x) → a ∈ o j → a ∉ U := fun {j m x a} h ha z => by
    obtain ⟨⟨w, _, t⟩, _⟩ := k.ow j m x h
    exact t.some ha (hU a z)
  have cases_ : ∀ {j m x}, (ρ.set i (.ow n d))[j]? = some (Sl.ow m x) → (j = i ∧ m = n ∧ x = d) ∨ (j ≠ i ∧ ρ[j]? = some (.ow m x)) := fun {j m x} h => by
    by_cases q : i = j
    · subst q
      rw [List.getElem?_set_self hi] at h
      cases h
      exact .inl ⟨rfl, rfl, rfl⟩
    · rw [List.getElem?_set_ne q] at h
      exact .inr ⟨Ne.symm q, h⟩
  have sub : ∀ a, hz Z (ρ.set i (.ow n d)) (fun j => if j = i then U else o j) [] a → hz Z ρ o [] a ∨ a ∈ U := by
    rintro a (z | ⟨j, m, x, j1, _, j3⟩)
    · exact .inl (.inl z)
    · rcases cases_ j1 with ⟨rfl, _⟩ | ⟨hne, j1⟩
      · simp only [if_true] at j3; exact .inr j3
      · simp only [if_neg hne] at j3; exact .inl (.inr ⟨j, m, x, j1, by simp, j3⟩)
  have e1 : Gr (hid H' fun a => hz Z ρ o [] a ∨ a ∈ U) (hid H' (hz Z (ρ.set i (.ow n d)) (fun j => if j = i then U else o j) [])) := (Gr.refl H').hid2 sub
  have e : Gr (hid H (hz Z ρ o [])) (hid H' (hz Z (ρ.set i (.ow n d)) (fun j => if j = i then U else o j) [])) := fun a w h => by
    obtain ⟨h1, h2⟩ := hid_some h
    rw [hid_no fun z => ?_]
    · exact e0 _ _ h2
    rcases sub a z with z | z
    · exact h1 z
    · rw [hU a z] at h2; cases h2
  refine ⟨by simp [k.len], fun j x h => ?_, fun j m x h => ?_, fun j1 j2 m1 m2 x y h1 h2 q => ?_, k.gr.trans e0, k.fr.trans e, k.zin⟩
  · by_cases q : i = j
    · subst q
      rw [List.getElem?_set_self hi] at h
      cases h
    · rw [List.getElem?_set_ne q] at h
      obtain ⟨w, h1, h2⟩ := k.fz j x h
      exact ⟨w, by rw [List.getElem?_set_ne q]; exact h1, h2.gr e⟩
  · rcases cases_ h with ⟨rfl, rfl, rfl⟩ | ⟨hne, h⟩
    · simp only [if_true]
      refine ⟨⟨v, by rw [List.getElem?_set_self (by rw [k.len]; exact hi)], r _ e1⟩, fun a ha => ⟨k.gr.free (hU a ha), fun z => k.zin.gr k.gr a z (hU a ha)⟩⟩
    · simp only [if_neg hne]
      obtain ⟨⟨w, h2, t⟩, h3⟩ := k.ow j m x h
      refine ⟨⟨w, by rw [List.getElem?_set_ne (Ne.symm hne)]; exact h2, t.gr e fun a ha => ?_⟩, h3⟩
      cases q : H a with
      | none => exact absurd q (t.some ha)
      | some u => exact e0 _ _ q
  · intro a
    rcases cases_ h1 with ⟨e1, _⟩ | ⟨n1, g1⟩
    · rcases cases_ h2 with ⟨e2, _⟩ | ⟨n2, g2⟩
      · exact absurd (e1.trans e2.symm) q
      · simp only [if_pos e1, if_neg n2]
        exact fun h3 h4 => old g2 h4 h3
    · rcases cases_ h2 with ⟨e2, _⟩ | ⟨n2, g2⟩
      · simp only [if_neg n1, if_pos e2]
        exact fun h3 h4 => old g1 h3 h4
      · simp only [if_neg n1, if_neg n2]
        exact k.inj j1 j2 m1 m2 x y g1 g2 q a
/-- a new list of one's own is laid and stored -/
theorem OkAt.lay (k : OkAt c F H0 Z ρ o σ H) {i : Nat} {p : Addr} {vs : List V} {ds : List D} (hp : H p = none) (hi : i < ρ.length) (r : RpA c (hid H (hz Z ρ o [])) vs ds) :
    OkAt c F H0 Z (ρ.set i (.ow 1 (.list ds))) (fun j => if j = i then [p] else o j) (σ.set i (some (.ref p))) (upd H p (.lst vs)) := by
  refine k.layT (Gr.new hp) (fun a ha => by rw [List.mem_singleton.mp ha]; exact hp) hi fun Hv e => ?_
  have e2 : Gr (hid H (hz Z ρ o [])) Hv := Gr.trans (fun a u h => by
    obtain ⟨h1, h2⟩ := hid_some h
    have na : a ≠ p := ne_of_none h2 hp
    rw [hid_no (fun z => z.elim h1 fun z => na (List.mem_singleton.mp z)), upd_ne na]
    exact h2) e
  exact .lst upd_same (TreeA.leaves (RpA.gr e2 r)) (by simp)
/-- one's own tree is changed -/
theorem OkAt.change (k : OkAt c F H0 Z ρ o σ H) {i n : Nat} {d e' : D} {v : V} (hi : ρ[i]? = some (.ow n e')) (hv : σ[i]? = some (some v)) (hH : ∀ a, a ∉ o i → H' a = H a) (r : ∀ Hv, Gr (hid H (hz Z ρ o [])) Hv → Tree c Hv H' n v d (o i)) :
    OkAt c F H0 Z (ρ.set i (.ow n d)) o σ H' := by
  have hl : i < ρ.length := (List.getElem?_eq_some_iff.mp hi).1
  obtain ⟨_, i3⟩ := k.ow i n e' hi
  have cases_ : ∀ {j m x}, (ρ.set i (.ow n d))[j]? = some (Sl.ow m x) → (j = i ∧ m = n ∧ x = d) ∨ (j ≠ i ∧ ρ[j]? = some (.ow m x)) := fun {j m x} h => by
    by_cases q : i = j
    · subst q
      rw [List.getElem?_set_self hl] at h
      cases h
      exact .inl ⟨rfl, rfl, rfl⟩
    · rw [List.getElem?_set_ne q] at h
      exact .inr ⟨Ne.symm q, h⟩
  have e : Gr (hid H (hz Z ρ o [])) (hid H' (hz Z (ρ.set i (.ow n d)) o [])) := fun a w h => by
    obtain ⟨h1, h2⟩ := hid_some h
    have na : a ∉ o i := fun z => h1 (.inr ⟨i, n, e', hi, by simp, z⟩)
    rw [hid_no ?_, hH a na]
    · exact h2
    rintro (z | ⟨j, m, x, j1, _, j3⟩)
    · exact h1 (.inl z)
    · rcases cases_ j1 with ⟨rfl, _⟩ | ⟨hne, j1⟩
      · exact na j3
      · exact h1 (.inr ⟨j, m, x, j1, by simp, j3⟩)
  refine ⟨by simp [k.len], fun j x h => ?_, fun j m x h => ?_, fun j1 j2 m1 m2 x y h1 h2 q => ?_, fun a w h => ?_, k.fr.trans e, k.zin⟩
  · by_cases q : i = j
    · subst q
      rw [List.getElem?_set_self hl] at h
      cases h
    · rw [List.getElem?_set_ne q] at h
      obtain ⟨w, h1, h2⟩ := k.fz j x h
      exact ⟨w, h1, h2.gr e⟩
  · rcases cases_ h with ⟨rfl, rfl, rfl⟩ | ⟨hne, h⟩
    · exact ⟨⟨v, hv, r _ e⟩, i3⟩
    · obtain ⟨⟨w, h2, t⟩, h3⟩ := k.ow j m x h
      exact ⟨⟨w, h2, t.gr e fun a ha => hH a (k.inj j i m n x e' h hi hne a ha)⟩, h3⟩
  · intro a
    rcases cases_ h1 with ⟨e1, _⟩ | ⟨n1, g1⟩
    · rcases cases_ h2 with ⟨e2, _⟩ | ⟨n2, g2⟩
      · exact absurd (e1.trans e2.symm) q
      · subst e1
        exact k.inj _ j2 n m2 e' y hi g2 q a
    · rcases cases_ h2 with ⟨e2, _⟩ | ⟨n2, g2⟩
      · subst e2
        exact k.inj j1 _ m1 n x e' g1 hi q a
      · exact k.inj j1 j2 m1 m2 x y g1 g2 q a
  · rw [hH a fun z => by rw [(i3 a z).1] at h; cases h]
    exact k.gr _ _ h
/-- what stood when one began, kept anew -/
theorem OkAt.keep {F' : Hp} (k : OkAt c F H0 Z ρ o σ H) (e : Gr F' (hid H (hz Z ρ o []))) : OkAt c F' H0 Z ρ o σ H := ⟨k.len, k.fz, k.ow, k.inj, k.gr, e, k.zin⟩
/-- what is seen outside stands -/
theorem OkAt.out (k : OkAt c F H0 Z ρ o σ H) (e : Gr H H') : Gr F (hid H' Z) := k.fr.trans (e.hid2 fun a z => .inl z)
end
end Bv

namespace Bv
open PySem PySem.Spec L2 PyProof.Rows

/-- how a statement ends -/
inductive Res where
  | un | nx (ρ : Env') | rt (d : D) | bk (ρ : Env') | ct (ρ : Env') | xc (x : Xc)
def PostS (S : Sx) (F H0 : Hp) (Z : Addr → Prop) (Dn : Ends) : Res → Prop
  | .un => False
  | .nx ρ => ∀ σ H, Ok S.c F H0 Z ρ σ H → Dn.nx σ H
  | .rt d => ∀ v H U, Gr H0 H → (∀ a ∈ U, H0 a = none) → Tree S.c (hid H fun a => Z a ∨ a ∈ U) H S.tr v d U → Dn.rt v H
  | .bk ρ => ∀ σ H, Ok S.c F H0 Z ρ σ H → Dn.bk σ H
  | .ct ρ => ∀ σ H, Ok S.c F H0 Z ρ σ H → Dn.ct σ H
  | .xc x => ∀ cls dx σ H, Gr H0 H → Gr F (hid H Z) → XcR S.c S.mg (hid H Z) x cls dx → S.W cls dx σ H
abbrev TellsS (S : Sx) (t : TS) (g : Env' → Res) : Prop := ∀ ρ F H0 Z σ H Dn, Ok S.c F H0 Z ρ σ H → PostS S F H0 Z Dn (g ρ) → t Dn σ H
structure SemS (S : Sx) (st : Stmt) (g : Env' → Res) : Prop where
  ex : ∃ t, (∀ X, S.At X → PS X st t) ∧ TellsS S t g
structure SemSs (S : Sx) (st : List Stmt) (g : Env' → Res) : Prop where
  ex : ∃ t, (∀ X, S.At X → PSs X st t) ∧ TellsS S t g

section
variable {S : Sx}
def snext (ρ : Env') : Res := .nx ρ
def sseq (f g : Env' → Res) (ρ : Env') : Res := match f ρ with
  | .nx ρ' => g ρ'
  | r => r
theorem sseq_nx {f g : Env' → Res} {ρ ρ' : Env'} (h : f ρ = .nx ρ') : sseq f g ρ = g ρ' := by unfold sseq; rw [h]
theorem sseq_rt {f g : Env' → Res} {ρ : Env'} {d : D} (h : f ρ = .rt d) : sseq f g ρ = .rt d := by unfold sseq; rw [h]
theorem ss_un {st : Stmt} : SemS S st (fun _ => .un) := ⟨⟨tNever, fun _ _ => ps_never, fun _ _ _ _ _ _ _ _ h => h.elim⟩⟩
theorem sss_un {st : List Stmt} : SemSs S st (fun _ => .un) := ⟨⟨tNever, fun _ _ => pss_never, fun _ _ _ _ _ _ _ _ h => h.elim⟩⟩
theorem sss_nil : SemSs S [] snext := ⟨⟨_, fun _ _ => pss_nil, fun ρ F H0 Z σ H Dn k h => h σ H k⟩⟩
theorem sss_one {st : Stmt} {f : Env' → Res} (h : SemS S st f) : SemSs S [st] f := let ⟨t, p, q⟩ := h.ex; ⟨⟨t, fun X hX => pss_one (p X hX), q⟩⟩
theorem sss_cons {st : Stmt} {rest : List Stmt} {f g : Env' → Res} (h : SemS S st f) (h2 : SemSs S rest g) : SemSs S (st :: rest) (sseq f g) := by
  obtain ⟨t, p, q⟩ := h.ex
  obtain ⟨t2, p2, q2⟩ := h2.ex
  refine ⟨⟨_, fun X hX => pss_cons (p X hX) (p2 X hX), fun ρ F H0 Z σ H Dn k h => ?_⟩⟩
  refine q ρ F H0 Z σ H { Dn with nx := t2 Dn } k ?_
  unfold sseq at h
  cases e : f ρ with
  | nx ρ' =>
    rw [e] at h
    exact fun σ' H' k' => q2 ρ' F H0 Z σ' H' Dn k' h
  | un => rw [e] at h; exact h
  | rt d => rw [e] at h; exact h
  | bk d => rw [e] at h; exact h
  | ct d => rw [e] at h; exact h
  | xc d => rw [e] at h; exact h
theorem ss_pass {pos : Pos} : SemS S (.Pass pos) snext := ⟨⟨_, fun _ _ => ps_pass, fun ρ F H0 Z σ H Dn k h => h σ H k⟩⟩
theorem ss_break {pos : Pos} : SemS S (.Break pos) .bk := ⟨⟨_, fun _ _ => ps_break, fun ρ F H0 Z σ H Dn k h => h σ H k⟩⟩
theorem ss_continue {pos : Pos} : SemS S (.Continue pos) .ct := ⟨⟨_, fun _ _ => ps_continue, fun ρ F H0 Z σ H Dn k h => h σ H k⟩⟩

/-- what an expression's end is to a statement -/
def Rv.st {A : Type} (r : Rv A) (f : A → Res) : Res := match r with | .un => .un | .xc x => .xc x | .ok a => f a
@[simp] theorem Rv.st_ok {A : Type} (a : A) (f : A → Res) : (Rv.ok a).st f = f a := rfl
@[simp] theorem Rv.st_un {A : Type} (f : A → Res) : (Rv.un : Rv A).st f = .un := rfl
@[simp] theorem Rv.st_xc {A : Type} (x : Xc) (f : A → Res) : (Rv.xc x : Rv A).st f = .xc x := rfl
theorem run_e {A B : Type} {R : Hp → A → B → Prop} {F H0 H : Hp} {Z : Addr → Prop} {ρ : Env'} {o : Nat → List Addr} {σ : L2.St} {M : List Nat} {T : A → Hp → Prop} {r : Rv B} {f : B → Res} {Dn : Ends}
    (k : OkAt S.c F H0 Z ρ o σ H) (h : PostS S F H0 Z Dn (r.st f)) (go : ∀ b v H', r = .ok b → OkAt S.c F H0 Z ρ o σ H' → R (hid H' (hz Z ρ o M)) v b → PostS S F H0 Z Dn (f b) → T v H') :
    Post S R σ (hz Z ρ o M) H T r := by
  cases r with
  | un => exact h
  | xc x => exact fun cls dx H' e q => h cls dx σ H' (k.gr.trans e) (k.out e) (q.gr ((Gr.refl H').hid2 fun a z => .inl z))
  | ok b => exact fun v H' e q => go b v H' rfl (k.grow e) q h
def asg (i : Nat) (M : List Nat) (f : Vw → Rv D) (ρ : Env') : Res := (f (vw M ρ)).st fun d => .nx (if imm d = true then ρ.set i (.fz d) else (frz M ρ).set i (.fz d))
theorem OkAt.asg {c : Cz} {F H0 H : Hp} {Z : Addr → Prop} {ρ : Env'} {o : Nat → List Addr} {σ : L2.St} {M : List Nat} (k : OkAt c F H0 Z ρ o σ H) {i : Nat} {v : V} {d : D} (r : Rp c (hid H (hz Z ρ o M)) v d) :
    OkAt c F H0 Z (if Bv.imm d = true then ρ.set i (.fz d) else (Bv.frz M ρ).set i (.fz d)) o (σ.set i (some v)) H := by
  split
  · rename_i hi
    exact k.put (k.imm hi r)
  · exact (k.freeze M).put (by rw [hid_frz]; exact r)
/-- x = e -/
theorem ss_set {i : Nat} {x : Str} {e : Expr} {f : Vw → Rv D} {pos pos' : Pos} (M : List Nat) (he : SemE S e f) (hi : S.N[i]? = some x := by rfl) (hx : L2.Loc S.sc x := by first | exact Or.inl rfl | exact Or.inr rfl) (hst : S.st x = true := by rfl) (hs : ∀ env, swapsWith e (some (.Name x pos')) pos.line env = pure false := by intro _; rfl) : SemS S (.Assign [.Name x pos'] e pos) (asg i M f) := by
  obtain ⟨t, p, q⟩ := he.ex
  refine ⟨⟨_, fun X hX => ps_set hX.nd (by rw [hX.hN]; exact hi) (by rw [hX.hsc]; exact hx) (p X hX) (hs _) (hX.fnl x hx hst), fun ρ F H0 Z σ H Dn ⟨o, k⟩ h => ?_⟩⟩
  refine q (vw M ρ) σ H (hz Z ρ o M) _ k.hin k.view (run_e k h fun d v H' _ k' r h' => ?_)
  exact h' _ _ ⟨o, k'.asg r⟩
def asgF (i : Nat) (M : List Nat) (f : Vw → Rv (List D)) (ρ : Env') : Res := (f (vw M ρ)).st fun ds => if i < ρ.length then .nx (if immA ds = true then ρ.set i (.ow 1 (.list ds)) else (frz M ρ).set i (.ow 1 (.list ds))) else .un
/-- x = a new list -/
theorem ss_setF {i : Nat} {x : Str} {e : Expr} {f : Vw → Rv (List D)} {pos pos' : Pos} (M : List Nat) (he : SemF S e f) (hi : S.N[i]? = some x := by rfl) (hx : L2.Loc S.sc x := by first | exact Or.inl rfl | exact Or.inr rfl) (hst : S.st x = true := by rfl) (hs : ∀ env, swapsWith e (some (.Name x pos')) pos.line env = pure false := by intro _; rfl) : SemS S (.Assign [.Name x pos'] e pos) (asgF i M f) := by
  obtain ⟨t, p, q⟩ := he.ex
  refine ⟨⟨_, fun X hX => ps_set hX.nd (by rw [hX.hN]; exact hi) (by rw [hX.hsc]; exact hx) (p X hX) (hs _) (hX.fnl x hx hst), fun ρ F H0 Z σ H Dn ⟨o, k⟩ h => ?_⟩⟩
  refine q (vw M ρ) σ H (hz Z ρ o M) _ k.hin k.view (run_e (R := fun H' (p : Addr × List V) ds => RpA S.c H' p.2 ds) k h fun ds v H' _ k' r h' hp => ?_)
  split at h'
  · rename_i hl
    by_cases hm : immA ds = true
    · rw [if_pos hm] at h'
      exact h' _ _ ⟨_, k'.lay hp hl (k'.immA hm r)⟩
    · rw [if_neg hm] at h'
      exact h' _ _ ⟨_, (k'.freeze M).lay hp (by rw [frz_length]; exact hl) (by rw [hid_frz]; exact r)⟩
  · exact False.elim h'
def ret (M : List Nat) (f : Vw → Rv D) (ρ : Env') : Res := (f (vw M ρ)).st fun d => .rt d
theorem hid_or {H : Hp} {Z : Addr → Prop} : hid H (fun a => Z a ∨ a ∈ ([] : List Addr)) = hid H Z := by
  have : (fun a => Z a ∨ a ∈ ([] : List Addr)) = Z := funext fun a => propext (by simp)
  rw [this]
theorem Tree.of0 {c : Cz} {H : Hp} {Z : Addr → Prop} {n : Nat} {v : V} {d : D} (h0 : n = 0 ∨ imm d = true) (r : Rp c (hid H Z) v d) : Tree c (hid H fun a => Z a ∨ a ∈ ([] : List Addr)) H n v d [] := by
  rw [hid_or]
  rcases h0 with rfl | h0
  · exact .leaf0 r
  · exact .leaf h0 r
theorem ss_ret {e : Expr} {f : Vw → Rv D} {pos : Pos} (M : List Nat) (he : SemE S e f) (ht : S.tr = 0 := by rfl) : SemS S (.Return (some e) pos) (ret M f) := by
  obtain ⟨t, p, q⟩ := he.ex
  refine ⟨⟨_, fun X hX => ps_ret (p X hX), fun ρ F H0 Z σ H Dn ⟨o, k⟩ h => ?_⟩⟩
  refine q (vw M ρ) σ H (hz Z ρ o M) _ k.hin k.view (run_e k h fun d v H' _ k' r h' => ?_)
  exact h' v H' [] k'.gr (fun a h => by cases h) (Tree.of0 (.inl ht) (r.gr ((Gr.refl H').hid2 fun a z => .inl z)))
/-- .. what can't change, from a def that promises more -/
def retI (M : List Nat) (f : Vw → Rv D) (ρ : Env') : Res := (f (vw M ρ)).st fun d => if imm d = true then .rt d else .un
theorem ss_retI {e : Expr} {f : Vw → Rv D} {pos : Pos} (M : List Nat) (he : SemE S e f) : SemS S (.Return (some e) pos) (retI M f) := by
  obtain ⟨t, p, q⟩ := he.ex
  refine ⟨⟨_, fun X hX => ps_ret (p X hX), fun ρ F H0 Z σ H Dn ⟨o, k⟩ h => ?_⟩⟩
  refine q (vw M ρ) σ H (hz Z ρ o M) _ k.hin k.view (run_e k h fun d v H' _ k' r h' => ?_)
  split at h'
  · rename_i hi
    exact h' v H' [] k'.gr (fun a h => by cases h) (Tree.of0 (.inr hi) (r.gr ((Gr.refl H').hid2 fun a z => .inl z)))
  · exact False.elim h'
theorem ss_retN {pos : Pos} : SemS S (.Return none pos) (fun _ => .rt .none) := ⟨⟨_, fun _ _ => ps_retN, fun ρ F H0 Z σ H Dn ⟨o, k⟩ h => h .non H [] k.gr (fun a h => by cases h) (.leaf rfl .non)⟩⟩
def drp (M : List Nat) (f : Vw → Rv D) (ρ : Env') : Res := (f (vw M ρ)).st fun _ => .nx ρ
theorem ss_expr {e : Expr} {f : Vw → Rv D} {pos : Pos} (M : List Nat) (he : SemE S e f) (hs : ∀ env, swapsWith e none pos.line env = pure false := by intro _; rfl) : SemS S (.Expr e pos) (drp M f) := by
  obtain ⟨t, p, q⟩ := he.ex
  refine ⟨⟨_, fun X hX => ps_expr (p X hX) (hs _), fun ρ F H0 Z σ H Dn ⟨o, k⟩ h => ?_⟩⟩
  refine q (vw M ρ) σ H (hz Z ρ o M) _ k.hin k.view (run_e k h fun d v H' _ k' r h' => ?_)
  exact h' σ H' ⟨o, k'⟩
def sif (M : List Nat) (c : Vw → Rv Bool) (f g : Env' → Res) (ρ : Env') : Res := (c (vw M ρ)).st fun b => if b = true then f ρ else g ρ
theorem ss_if {c : Expr} {a b : List Stmt} {fc : Vw → Rv Bool} {f g : Env' → Res} {pos : Pos} (M : List Nat) (hc : SemT S c fc) (ha : SemSs S a f) (hb : SemSs S b g) : SemS S (.If c a b pos) (sif M fc f g) := by
  obtain ⟨t, p, q⟩ := hc.ex
  obtain ⟨t1, p1, q1⟩ := ha.ex
  obtain ⟨t2, p2, q2⟩ := hb.ex
  refine ⟨⟨_, fun X hX => ps_if (p X hX) (p1 X hX) (p2 X hX), fun ρ F H0 Z σ H Dn ⟨o, k⟩ h => ?_⟩⟩
  refine q (vw M ρ) σ H (hz Z ρ o M) _ k.hin k.view (run_e (R := RT) k h fun d v H' _ k' r h' => ?_)
  cases (show v = d from r)
  cases d with
  | true => exact q1 ρ F H0 Z σ H' Dn ⟨o, k'⟩ h'
  | false => exact q2 ρ F H0 Z σ H' Dn ⟨o, k'⟩ h'
/-- a, b, .. = e: a tuple's parts into names -/
def setAll : List Nat → List D → Env' → Option Env'
  | [], [], ρ => some ρ
  | i :: is, d :: ds, ρ => setAll is ds (ρ.set i (.fz d))
  | _, _, _ => none
def untup (is : List Nat) (M : List Nat) (f : Vw → Rv D) (ρ : Env') : Res := (f (vw M ρ)).st fun d => match d with
  | .tuple ds => match setAll is ds (if immA ds = true then ρ else frz M ρ) with | some ρ' => .nx ρ' | none => .un
  | _ => .un
/-- targets that are names -/
def gNames : List Nat → TGs
  | [] => gNil
  | i :: is => gCons (gName i) (gNames is)
structure SemG (S : Sx) (ts : List Expr) (is : List Nat) : Prop where
  ex : ∀ X, S.At X → PGs X ts (gNames is)
theorem sg_nil : SemG S [] [] := ⟨fun _ _ => pgs_nil⟩
theorem sg_cons {x : Str} {pos : Pos} {ts : List Expr} {is : List Nat} (i : Nat) (h : SemG S ts is) (hi : S.N[i]? = some x := by rfl) (hx : L2.Loc S.sc x := by first | exact Or.inl rfl | exact Or.inr rfl) (hst : S.st x = true := by rfl)
    (hs : ∀ env, (assignEach ((.Name x pos) :: ts) env).map (·.2) = assign (.Name x pos) env :: (assignEach ts env).map (·.2) := by intro _; rfl) : SemG S ((.Name x pos) :: ts) (i :: is) :=
  ⟨fun X hX => pgs_cons (pg_name hX.nd (by rw [hX.hN]; exact hi) (by rw [hX.hsc]; exact hx) (hX.fnl x hx hst)) (h.ex X hX) (hs _)⟩
theorem setAll_run {c : Cz} {F H0 H : Hp} {Z : Addr → Prop} {Q : L2.St → Hp → Prop} {o : Nat → List Addr} : ∀ {is : List Nat} {ds : List D} {vs : List V} {ρ ρ' : Env'} {σ : L2.St}, OkAt c F H0 Z ρ o σ H → RpA c F vs ds → setAll is ds ρ = some ρ' → (∀ σ', OkAt c F H0 Z ρ' o σ' H → Q σ' H) →
    gNames is vs σ H Q
  | [], [], _, ρ, ρ', σ, k, r, e, q => by
    cases r
    cases e
    exact ⟨rfl, q σ k⟩
  | i :: is, d :: ds, _, ρ, ρ', σ, k, r, e, q => by
    cases r with
    | @cons v vs _ _ r1 r2 => exact ⟨v, vs, rfl, setAll_run (ρ := ρ.set i (.fz d)) (k.put (r1.gr k.fr)) r2 e q⟩
  | [], _ :: _, _, _, _, _, _, _, e, _ => by cases e
  | _ :: _, [], _, _, _, _, _, _, e, _ => by cases e
theorem ss_untup {ts : List Expr} {kt : Nat} {is : List Nat} {e : Expr} {f : Vw → Rv D} {pos pt : Pos} (M : List Nat) (hg : SemG S ts is) (he : SemE S e f)
    (hn : ∀ env, (assignEach ts env).length = is.length := by intro _; rfl) (hst : ∀ env, (assignEach ts env).findIdx? (·.1) = none := by intro _; rfl)
    (hs : ∀ env, swapsWithSole [.Tuple ts kt pt] e pos.line env = pure false := by intro _; rfl) (hw : ∀ env, swappedStores [.Tuple ts kt pt] e env = pure none := by intro _; rfl)
    (h1 : ∀ env, (assignEach [.Tuple ts kt pt] env).map (·.2) = [assign (.Tuple ts kt pt) env] := by intro _; rfl) : SemS S (.Assign [.Tuple ts kt pt] e pos) (untup is M f) := by
  obtain ⟨t, p, q⟩ := he.ex
  refine ⟨⟨tAsg t (gTup S.K is.length (gNames is)), fun X hX => ?_, fun ρ F H0 Z σ H Dn ⟨o, k⟩ h => ?_⟩⟩
  · rw [← hX.hK]
    exact ps_asg (p X hX) (pg_tup (n := is.length) hX.calm (hg.ex X hX) (hn _) (hst _)) (hs _) (hw _) (h1 _)
  refine q (vw M ρ) σ H (hz Z ρ o M) _ k.hin k.view (run_e k h fun d v H' _ k' r h' => ?_)
  cases r with
  | @tup a xs ds r1 r2 =>
    have len : ∀ {is : List Nat} {ds : List D} {ρ ρ' : Env'}, setAll is ds ρ = some ρ' → is.length = ds.length := by
      intro is
      induction is with
      | nil => intro ds ρ ρ' e; cases ds <;> first | rfl | cases e
      | cons i is ih => intro ds ρ ρ' e; cases ds with | nil => cases e | cons d ds => simp [ih (by simpa [setAll] using e)]
    cases es : setAll is ds (if immA ds = true then ρ else frz M ρ) with
    | none => simp only [es] at h'; exact False.elim h'
    | some ρ' =>
      simp only [es] at h'
      have hl := len es
      refine ⟨a, xs, rfl, (Gr.hid_le _ _).sqT r1, by rw [RpA.length r2, hl], ?_⟩
      by_cases hm : immA ds = true
      · rw [if_pos hm] at es
        exact setAll_run (k'.keep (Gr.refl _)) (k'.immA hm r2) es fun σ' k2 => h' σ' H' ⟨o, k2.keep (k'.fr.trans k2.fr)⟩
      · rw [if_neg hm] at es
        have k3 := k'.freeze M
        exact setAll_run (k3.keep (Gr.refl _)) (by rw [hid_frz]; exact r2) es fun σ' k2 => h' σ' H' ⟨o, k2.keep (k3.fr.trans k2.fr)⟩
  | _ => exact False.elim h'
/-! ### x.append(e), x a list of one's own -/
/-- what may be put into a list of n levels -/
def putOk (n : Nat) (d : D) : Bool := imm d || (n == 0)
def app (j : Nat) (M : List Nat) (f : Vw → Rv D) (ρ : Env') : Res := match ρ[j]? with
  | some (.ow (n + 1) (.list xs)) => (f (vw M ρ)).st fun d => if xs.length < 16000000 ∧ (imm d = true ∨ (n = 0 ∧ M.contains j = false)) then .nx ((if imm d = true then ρ else frz M ρ).set j (.ow (n + 1) (.list (xs ++ [d])))) else .un
  | _ => .un
theorem TreeA.length {c : Cz} {Hv H : Hp} {n : Nat} {vs : List V} : ∀ {ds : List D} {U : List Addr}, TreeA c Hv H n vs ds U → vs.length = ds.length := by
  induction vs with
  | nil => intro ds U h; cases h; rfl
  | cons v vs ih => intro ds U h; cases h with | cons h1 h2 h3 => simp [ih h2]
theorem TreeA.snoc {c : Cz} {Hv H : Hp} {n : Nat} {v : V} {d : D} (hd : Tree c Hv H n v d []) {vs : List V} : ∀ {ds : List D} {U : List Addr}, TreeA c Hv H n vs ds U → TreeA c Hv H n (vs ++ [v]) (ds ++ [d]) U := by
  induction vs with
  | nil =>
    intro ds U h
    cases h
    exact .cons (U := []) (W := []) hd .nil (fun a h => by cases h)
  | cons w vs ih => intro ds U h; cases h with | cons h1 h2 h3 => exact .cons h1 (ih h2) h3
theorem Tree.isL {c : Cz} {Hv H : Hp} {n : Nat} {v : V} {ds : List D} {U : List Addr} (t : Tree c Hv H (n + 1) v (.list ds) U) : ∃ a xs W, v = .ref a ∧ U = a :: W ∧ H a = Option.some (.lst xs) ∧ TreeA c Hv H n xs ds W ∧ a ∉ W := by
  cases t with
  | leaf i _ => simp [imm] at i
  | lst h1 h2 h3 => exact ⟨_, _, _, rfl, rfl, h1, h2, h3⟩
theorem ss_app {j : Nat} {x : Str} {e : Expr} {f : Vw → Rv D} {p1 p2 p3 p4 : Pos} (M : List Nat) (he : SemE S e f) (hN : S.N[j]? = some x := by rfl) (hv : Vis S.sc x := by first | exact Or.inl rfl | exact Or.inr (Or.inl rfl) | exact Or.inr (Or.inr rfl)) (hd : (x == ("__debug__" : Str)) = false := by decide)
    (hcd : (x == ("__classdict__" : Str)) = false := by decide) (hbase : ∀ env, attributeBase (.Name x p1) "append" env (eval (.Name x p1) env) = eval (.Name x p1) env := by intro _; rfl)
    (hfew : ∀ env, ((backTo p3 (starEach [e] env)).all (fun x => !x.1) && (backToKw p3 (keywordEach [] env)).all (fun x => x.1.isSome)
      && decide (([e] : List Expr).length + ([] : List Keyword).length + (if ([] : List Keyword).isEmpty then 0 else 1) < 30)) = true := by intro _; rfl)
    (hline : (p2.endLine == p3.line) = true := by rfl) (hs : ∀ env, starEach [e] env = (false, eval e env) :: starEach [] env := by intro _; rfl) (hplain : ∀ env, (backTo p3 (starEach [] env)).any (·.1) = false := by intro _; rfl)
    (hsw : ∀ env, swapsWith (.Call (.Attribute (.Name x p1) "append" p2) [e] [] p3) none p4.line env = pure false := by intro _; rfl) : SemS S (.Expr (.Call (.Attribute (.Name x p1) "append" p2) [e] [] p3) p4) (app j M f) := by
  obtain ⟨t, p, q⟩ := he.ex
  refine ⟨⟨tDrop (tBM S.K "list" rAppend (tVar j) (tCons t tNil)), fun X hX => ?_, fun ρ F H0 Z σ H Dn ⟨o, k⟩ h => ?_⟩⟩
  · rw [← hX.hK]
    exact ps_expr (pe_bm PySem.F.plainAttrs_list PySem.F.slot_list_append PySem.F.type_list_append mt_append (pe_var (by rw [hX.hN]; exact hN) (by rw [hX.hsc]; exact hv) hd hcd) (pa_cons (p X hX) pa_nil (hs _)) (hbase _) (hfew _) hline (hs _) (hplain _)) (hsw _)
  unfold app at h
  split at h
  · rename_i n xs hj
    obtain ⟨⟨v0, s1, tr⟩, s2⟩ := k.ow j _ _ hj
    obtain ⟨a, vs, W, rfl, hU, s4, s5, s6⟩ := tr.isL
    refine ⟨_, s1, .inl ⟨rfl, vs, .inl (.inl s4)⟩, ?_⟩
    refine q (vw M ρ) σ H (hz Z ρ o M) _ k.hin k.view (run_e k h fun d v H' e k' r h' => ?_)
    obtain ⟨⟨v0', s1', tr'⟩, s2'⟩ := k'.ow j _ _ hj
    rw [s1] at s1'
    cases s1'
    obtain ⟨a', vs', W', ea, hU', w4, w5, w6⟩ := tr'.isL
    cases ea
    rw [hU'] at hU
    cases hU
    have hl := TreeA.length w5
    split at h'
    · rename_i hlt
      refine ⟨a, vs', v, rfl, rfl, w4, line_gt (by omega), ?_⟩
      have hne : ∀ b, b ∉ o j → upd H' a (.lst (vs' ++ [v])) b = H' b := fun b hb => upd_ne fun z => hb (by rw [hU', z]; exact List.mem_cons_self)
      have hW : ∀ b ∈ W, upd H' a (.lst (vs' ++ [v])) b = H' b := fun b hb => upd_ne fun z => w6 (z ▸ hb)
      refine h' _ _ ⟨o, ?_⟩
      split
      · rename_i hm
        refine k'.change hj s1 hne fun Hv e => ?_
        rw [hU']
        exact .lst upd_same (TreeA.snoc (.leaf hm ((k'.imm hm r).gr e)) (TreeA.gr e hW w5)) w6
      · rename_i hm
        obtain ⟨rfl, hc⟩ := hlt.2.resolve_left hm
        refine (k'.freeze M).change (frz_of hj (by simpa using hc)) s1 hne fun Hv e => ?_
        rw [hU']
        rw [hid_frz] at e
        exact .lst upd_same (TreeA.snoc (.leaf0 (r.gr e)) (TreeA.gr (((Gr.refl H').hid2 fun a => hz_nil).trans e) hW w5)) w6
    · exact False.elim h'
  · exact False.elim h
end
end Bv

namespace Bv
open PySem PySem.Spec L2 PyProof.Rows

/-! ### a def's contract (no repr under way around it) -/
structure FnG (P : Program) (w : World) (K : PySem.W.Frag) (mg : Str → Option Value) (base : Heap) (k : Nat) (f : Addr) (fd : FuncData) (ps : List Str) (sp : Sp) : Prop where
  len : ∀ vs H Q E, sp vs H Q E → vs.length = ps.length
  run : ∀ (A : Around) (outer : List Env) (s : Shared) (H : Hp) (args : Args) (us : List Value) (vs : List V) (Q : VK) (E : XK), A.guards = some [] → Room k A → Env0 P w K mg base A outer s H → BindsTo s fd args (ps.zip us) → Vals vs us → sp vs H Q E →
    codeAny (model P w) A (.call (.ref f) args) (CR (L2.CX P w) outer P w H s Q E) s
theorem FnG.mono {P : Program} {w : World} {K : PySem.W.Frag} {mg : Str → Option Value} {base : Heap} {j k : Nat} {f : Addr} {fd : FuncData} {ps : List Str} {sp : Sp} (F : FnG P w K mg base j f fd ps sp) (h : j ≤ k) : FnG P w K mg base k f fd ps sp :=
  ⟨F.len, fun A outer s H args us vs Q E hg hr => F.run A outer s H args us vs Q E hg (hr.mono h)⟩
/-- what a call is to promise, told of data -/
def PostD (c : Cz) (mg : Str → Option Value) (E : XK) (Z : Addr → Prop) (H : Hp) (Q : VK) : Rv D → Prop
  | .un => False
  | .ok d => ∀ v H', Gr H H' → Rp c (hid H' Z) v d → Q v H'
  | .xc x => ∀ cls dx H', Gr H H' → XcR c mg (hid H' Z) x cls dx → E cls dx H'
def spD (c : Cz) (mg : Str → Option Value) (n : Nat) (g : List D → Rv D) : Sp := fun vs H Q E => ∃ (Z : Addr → Prop) (ds : List D), vs.length = n ∧ In Z H ∧ RpA c (hid H Z) vs ds ∧ PostD c mg E Z H Q (g ds)
/-- .. and a tree of one's own, n lists deep -/
def PostDT (c : Cz) (mg : Str → Option Value) (tr : Nat) (E : XK) (Z : Addr → Prop) (H : Hp) (Q : VK) : Rv D → Prop
  | .un => False
  | .ok d => ∀ v H' U, Gr H H' → (∀ a ∈ U, H a = none) → Tree c (hid H' fun a => Z a ∨ a ∈ U) H' tr v d U → Q v H'
  | .xc x => ∀ cls dx H', Gr H H' → XcR c mg (hid H' Z) x cls dx → E cls dx H'
def spT (c : Cz) (mg : Str → Option Value) (n tr : Nat) (g : List D → Rv D) : Sp := fun vs H Q E => ∃ (Z : Addr → Prop) (ds : List D), vs.length = n ∧ In Z H ∧ RpA c (hid H Z) vs ds ∧ PostDT c mg tr E Z H Q (g ds)
theorem Tree.rpZ {c : Cz} {H H' : Hp} {Z : Addr → Prop} {tr : Nat} {v : V} {d : D} {U : List Addr} (z : In Z H) (hU : ∀ a ∈ U, H a = none) (t : Tree c (hid H' fun a => Z a ∨ a ∈ U) H' tr v d U) : Rp c (hid H' Z) v d :=
  t.rp ((Gr.refl H').hid2 fun a h => .inl h) fun a ha => hid_no fun h => z a h (hU a ha)
theorem FnG.weak {P : Program} {w : World} {K : PySem.W.Frag} {mg : Str → Option Value} {base : Heap} {k : Nat} {f : Addr} {fd : FuncData} {ps : List Str} {n tr : Nat} {g : List D → Rv D} (F : FnG P w K mg base k f fd ps (spT ⟨P, w, K, mg⟩ mg n tr g)) (hn : ps.length = n) : FnG P w K mg base k f fd ps (spD ⟨P, w, K, mg⟩ mg n g) := by
  refine ⟨fun vs H Q E ⟨Z, ds, h, _⟩ => h.trans hn.symm, fun A outer s H args us vs Q E hg hr e0 hb r ⟨Z, ds, h1, h2, h3, h4⟩ => F.run A outer s H args us vs Q E hg hr e0 hb r ⟨Z, ds, h1, h2, h3, ?_⟩⟩
  cases e : g ds with
  | un => rw [e] at h4; exact h4
  | xc x => rw [e] at h4; exact h4
  | ok d => rw [e] at h4; exact fun v H' U e1 hU t => h4 v H' e1 (t.rpZ h2 hU)
/-- a function of the text, linked: its address, its contract -/
structure Lk (T : Wd) (k : Nat) (x : Str) (n : Nat) (g : List D → Rv D) : Prop where
  ex : ∃ (f : Addr) (fd : FuncData) (ps : List Str), FnG T.P T.w T.K T.mg T.base k f fd ps (spD T.c T.mg n g) ∧ T.mg x = some (.ref f) ∧ PySem.W.keepIn T.K (.ref f) = true ∧ Binds T.K fd ps []
theorem Lk.mono {T : Wd} {j k : Nat} {x : Str} {n : Nat} {g : List D → Rv D} (F : Lk T j x n g) (h : j ≤ k) : Lk T k x n g :=
  let ⟨f, fd, ps, h1, h2, h3, h4⟩ := F.ex; ⟨f, fd, ps, h1.mono h, h2, h3, h4⟩

section
variable {X : Cx} {S : Sx}
theorem run_fnG {k : Nat} {f : Addr} {fd : FuncData} {ps : List Str} {sp : Sp} {E : XK} {pins : List (Addr × Obj)} {σ : L2.St} {H : Hp} {s : Shared} {Q : VK} {us : List Value} {vs : List V}
    (F : FnG X.prog X.w X.K X.mg X.base k f fd ps sp) (hgd : X.A.guards = some []) (hr : Room k X.A) (hb : Binds X.K fd ps []) (hx : PassesAt (L2.CX X.prog X.w) X σ E) (I : Inv X pins σ H s) (r : Vals vs us) (h : sp vs H Q E) :
    wpAny (model X.prog X.w) X.A (call (.ref f) us) (EP X pins σ Q) X.xe s := by
  have hl : (us ++ []).length = ps.length := by rw [List.append_nil, ← r.length]; exact F.len _ _ _ _ h
  have hb2 := hb s us I.kIn hl
  rw [List.append_nil] at hb2
  have go := F.run X.A X.stack s H ⟨us, []⟩ us vs Q E hgd hr I.env0 hb2 r h
  refine wpAny_call (codeAny_mono go ?_)
  intro r s' hq
  match r, hq with
  | .error e, hq => exact hx pins H s e s' I hq
  | .ok (.ret u), hq => exact I.after hq
def cal (g : List D → Rv D) (fa : Vw → Rv (List D)) (η : Vw) : Rv D := (fa η).bind g
/-- a def's end as the caller meets it -/
theorem post_call {σ : L2.St} {Z : Addr → Prop} {H : Hp} {Q : VK} {r : Rv D} (h : Post S (RE S) σ Z H Q r) : PostD S.c S.mg (WE S.W σ) Z H Q r := by
  cases r with
  | un => exact h
  | ok d => exact h
  | xc y => exact h
theorem se_call {k n : Nat} {x : Str} {g : List D → Rv D} {e : Expr} {es : List Expr} {fa : Vw → Rv (List D)} {p pos : Pos} (F : Lk S.toWd k x n g) (ha : SemA S (e :: es) fa) (hlen : ∀ η ds, fa η = .ok ds → ds.length = n) (hk : Nat.ble k S.k = true := by rfl)
    (hg : S.sc.names.lookup x = some .globalImplicit := by rfl) (hdb : (x == ("__debug__" : Str)) = false := by decide) (he : ∀ env, starEach (e :: es) env = (false, eval e env) :: starEach es env := by intro _; rfl)
    (hpl : ∀ env, (backTo pos (starEach es env)).any (·.1) = false := by intro _; rfl) : SemE S (.Call (.Name x p) (e :: es) [] pos) (cal g fa) := by
  obtain ⟨f, fd, ps, F, hm, hkp, hb⟩ := F.ex
  obtain ⟨t, pa, q⟩ := ha.ex
  refine ⟨⟨fun σ H Q => t σ H fun vs H1 => spD S.c S.mg n g vs H1 Q (WE S.W σ), fun X hX => ⟨fun pins s σ H Q I h => ?_⟩, fun η σ H Z Q z hη h => ?_⟩⟩
  · have hg' : Gl X x := by show X.env.scope.names.lookup x = _; rw [hX.hsc]; exact hg
    refine wpAny_Call_Name_kw (ld_glob I hg' (by rw [hX.hmg]; exact hm) ?_ hdb)
    refine PySem.W.callWith_K (h₀ := X.base) I.ok.mod.kin (by rw [hX.hK]; exact hkp) (thn ((pa X hX).run pos pins s σ H _ I h) ?_) (he _) (hpl _)
    intro us s1 ⟨vs, H1, I1, r, q1⟩
    refine ⟨I1.kIn, run_fnG ?_ hX.gd (hX.hr.mono (Nat.le_of_ble_eq_true hk)) (by rw [hX.hK]; exact hb) (passAt hX.tk σ) I1 r q1⟩
    rw [hX.hP, hX.hw, hX.hK, hX.hmg, hX.hb]
    exact F
  · refine q η σ H Z _ z hη (Post.bind h fun ds vs H1 ed e1 r1 h1 => ?_)
    exact ⟨Z, ds, by rw [RpA.length r1, hlen η ds ed], z.gr e1, r1, post_call h1⟩
theorem se_call0 {k : Nat} {x : Str} {g : List D → Rv D} {p pos : Pos} (F : Lk S.toWd k x 0 g) (hk : Nat.ble k S.k = true := by rfl)
    (hg : S.sc.names.lookup x = some .globalImplicit := by rfl) (hdb : (x == ("__debug__" : Str)) = false := by decide) : SemE S (.Call (.Name x p) [] [] pos) (fun _ => g []) := by
  obtain ⟨f, fd, ps, F, hm, hkp, hb⟩ := F.ex
  refine ⟨⟨fun σ H Q => spD S.c S.mg 0 g [] H Q (WE S.W σ), fun X hX => ⟨fun pins s σ H Q I h => ?_⟩, fun η σ H Z Q z hη h => ⟨Z, [], rfl, z, .nil, post_call h⟩⟩⟩
  have hg' : Gl X x := by show X.env.scope.names.lookup x = _; rw [hX.hsc]; exact hg
  refine wpAny_Call_Name_kw (ld_glob I hg' (by rw [hX.hmg]; exact hm) ?_ hdb)
  refine PySem.W.callWith_K0 I.kIn (by rw [hX.hK]; exact hkp) (run_fnG (us := []) ?_ hX.gd (hX.hr.mono (Nat.le_of_ble_eq_true hk)) (by rw [hX.hK]; exact hb) (passAt hX.tk σ) I .nil h)
  rw [hX.hP, hX.hw, hX.hK, hX.hmg, hX.hb]
  exact F
theorem acons_len {f : Vw → Rv D} {g : Vw → Rv (List D)} {n : Nat} (h : ∀ η ds, g η = .ok ds → ds.length = n) : ∀ η ds, acons f g η = .ok ds → ds.length = n + 1 := by
  intro η ds e
  unfold acons at e
  cases ef : f η with
  | un => rw [ef] at e; cases e
  | xc x => rw [ef] at e; cases e
  | ok a =>
    rw [ef] at e
    cases eg : g η with
    | un => rw [eg] at e; cases e
    | xc x => rw [eg] at e; cases e
    | ok b =>
      rw [eg] at e
      cases e
      simp [h η b eg]
theorem anil_len : ∀ η ds, anil η = .ok ds → ds.length = 0 := fun _ _ e => by cases e; rfl

/-! ### calls of what is built in -/
def OpN (S : Sx) (r : List V → Hp → VK → Prop) (g : List D → Rv D) : Prop :=
  ∀ xs ds H Z Q σ, In Z H → RpA S.c (hid H Z) xs ds → Post S (RE S) σ Z H Q (g ds) → r xs H Q
theorem cb_run {r : List V → Hp → VK → Prop} {g : List D → Rv D} {fa : Vw → Rv (List D)} {t : TA} (hr : OpN S r g) (q : Tells S (RA S) t fa) : Tells S (RE S) (tCB r t) (cal g fa) := by
  intro η σ H Z Q z hη h
  exact q η σ H Z _ z hη (Post.bind h fun ds vs H1 _ e1 r1 h1 => hr vs ds H1 Z Q σ (z.gr e1) r1 h1)
theorem se_callB {id : String} {x : Str} {r : List V → Hp → VK → Prop} {g : List D → Rv D} {e : Expr} {es : List Expr} {fa : Vw → Rv (List D)} {p pos : Pos} (hc : ∀ X, S.At X → CallR X (.builtin id) r) (hr : OpN S r g) (hm : S.mg x = none) (hv : bootBuiltins x = some (.builtin id)) (ha : SemA S (e :: es) fa)
    (hg : S.sc.names.lookup x = some .globalImplicit := by rfl) (hn : x ≠ "__name__" := by decide) (hdb : (x == ("__debug__" : Str)) = false := by decide) (he : ∀ env, starEach (e :: es) env = (false, eval e env) :: starEach es env := by intro _; rfl) (hpl : ∀ env, (backTo pos (starEach es env)).any (·.1) = false := by intro _; rfl) :
    SemE S (.Call (.Name x p) (e :: es) [] pos) (cal g fa) := by
  obtain ⟨t, pa, q⟩ := ha.ex
  exact ⟨⟨_, fun X hX => pe_callB (hc X hX) (by show X.env.scope.names.lookup x = _; rw [hX.hsc]; exact hg) (by rw [hX.hmg]; exact hm) hv (pa X hX) hn hdb (he _) (hpl _), cb_run hr q⟩⟩
theorem se_callTy {T : String} {x : Str} {r : List V → Hp → VK → Prop} {g : List D → Rv D} {e : Expr} {es : List Expr} {fa : Vw → Rv (List D)} {p pos : Pos} (hc : ∀ X, S.At X → CallR X (.type T) r) (hr : OpN S r g) (hm : S.mg x = none) (hv : bootBuiltins x = some (.type T)) (ha : SemA S (e :: es) fa)
    (hg : S.sc.names.lookup x = some .globalImplicit := by rfl) (hn : x ≠ "__name__" := by decide) (hdb : (x == ("__debug__" : Str)) = false := by decide) (he : ∀ env, starEach (e :: es) env = (false, eval e env) :: starEach es env := by intro _; rfl) (hpl : ∀ env, (backTo pos (starEach es env)).any (·.1) = false := by intro _; rfl) :
    SemE S (.Call (.Name x p) (e :: es) [] pos) (cal g fa) := by
  obtain ⟨t, pa, q⟩ := ha.ex
  exact ⟨⟨_, fun X hX => pe_callTy (hc X hX) (by show X.env.scope.names.lookup x = _; rw [hX.hsc]; exact hg) (by rw [hX.hmg]; exact hm) hv (pa X hX) hn hdb (he _) (hpl _), cb_run hr q⟩⟩
/-- .. that make a new list -/
def OpNF (S : Sx) (r : List V → Hp → VK → Prop) (g : List D → Rv (List D)) : Prop :=
  ∀ xs ds H Z Q σ, In Z H → RpA S.c (hid H Z) xs ds → Post S (fun H' (p : Addr × List V) ds => RpA S.c H' p.2 ds) σ Z H (fun p H' => H' p.1 = none → Q (.ref p.1) (upd H' p.1 (.lst p.2))) (g ds) → r xs H Q
def calF (g : List D → Rv (List D)) (fa : Vw → Rv (List D)) (η : Vw) : Rv (List D) := (fa η).bind g
theorem cbF_run {r : List V → Hp → VK → Prop} {g : List D → Rv (List D)} {fa : Vw → Rv (List D)} {t : TA} (hr : OpNF S r g) (q : Tells S (RA S) t fa) : TellsF S (tCB r t) (calF g fa) := by
  intro η σ H Z Q z hη h
  exact q η σ H Z _ z hη (Post.bind h fun ds vs H1 _ e1 r1 h1 => hr vs ds H1 Z Q σ (z.gr e1) r1 h1)
theorem sf_callB {id : String} {x : Str} {r : List V → Hp → VK → Prop} {g : List D → Rv (List D)} {e : Expr} {es : List Expr} {fa : Vw → Rv (List D)} {p pos : Pos} (hc : ∀ X, S.At X → CallR X (.builtin id) r) (hr : OpNF S r g) (hm : S.mg x = none) (hv : bootBuiltins x = some (.builtin id)) (ha : SemA S (e :: es) fa)
    (hg : S.sc.names.lookup x = some .globalImplicit := by rfl) (hn : x ≠ "__name__" := by decide) (hdb : (x == ("__debug__" : Str)) = false := by decide) (he : ∀ env, starEach (e :: es) env = (false, eval e env) :: starEach es env := by intro _; rfl) (hpl : ∀ env, (backTo pos (starEach es env)).any (·.1) = false := by intro _; rfl) :
    SemF S (.Call (.Name x p) (e :: es) [] pos) (calF g fa) := by
  obtain ⟨t, pa, q⟩ := ha.ex
  exact ⟨⟨_, fun X hX => pe_callB (hc X hX) (by show X.env.scope.names.lookup x = _; rw [hX.hsc]; exact hg) (by rw [hX.hmg]; exact hm) hv (pa X hX) hn hdb (he _) (hpl _), cbF_run hr q⟩⟩
theorem sf_callTy {T : String} {x : Str} {r : List V → Hp → VK → Prop} {g : List D → Rv (List D)} {e : Expr} {es : List Expr} {fa : Vw → Rv (List D)} {p pos : Pos} (hc : ∀ X, S.At X → CallR X (.type T) r) (hr : OpNF S r g) (hm : S.mg x = none) (hv : bootBuiltins x = some (.type T)) (ha : SemA S (e :: es) fa)
    (hg : S.sc.names.lookup x = some .globalImplicit := by rfl) (hn : x ≠ "__name__" := by decide) (hdb : (x == ("__debug__" : Str)) = false := by decide) (he : ∀ env, starEach (e :: es) env = (false, eval e env) :: starEach es env := by intro _; rfl) (hpl : ∀ env, (backTo pos (starEach es env)).any (·.1) = false := by intro _; rfl) :
    SemF S (.Call (.Name x p) (e :: es) [] pos) (calF g fa) := by
  obtain ⟨t, pa, q⟩ := ha.ex
  exact ⟨⟨_, fun X hX => pe_callTy (hc X hX) (by show X.env.scope.names.lookup x = _; rw [hX.hsc]; exact hg) (by rw [hX.hmg]; exact hm) hv (pa X hX) hn hdb (he _) (hpl _), cbF_run hr q⟩⟩

/-! len, abs, max, min, int, list, tuple -/
def dLen : List D → Rv D
  | [.list xs] => .ok (.int xs.length)
  | [.tuple xs] => .ok (.int xs.length)
  | [.str x] => if x.length ≤ 16000000 then .ok (.int x.length) else .un
  | _ => .un
@[simp] theorem dLen_l (xs : List D) : dLen [.list xs] = .ok (.int xs.length) := rfl
@[simp] theorem dLen_t (xs : List D) : dLen [.tuple xs] = .ok (.int xs.length) := rfl
def rLenA (K : PySem.W.Frag) : List V → Hp → VK → Prop := fun xs H Q => (∃ p ys, xs = [.ref p] ∧ (SqL K H p ys ∨ SqT K H p ys) ∧ Q (.int ys.length) H) ∨ ∃ z, xs = [.str z] ∧ z.length ≤ sizeLine ∧ Q (.int z.length) H
theorem call_lenA {X : Cx} : CallR X (.builtin "len") (rLenA X.K) := call_len_seq.or call_len_str
theorem on_len : OpN S (rLenA S.K) dLen := by
  intro xs ds H Z Q σ z r h
  cases r with
  | nil => exact False.elim h
  | cons r1 r2 =>
    cases r2 with
    | cons _ _ => cases r1 <;> exact False.elim h
    | nil =>
      cases r1 with
      | lst h1 h2 => exact .inl ⟨_, _, rfl, .inl ((Gr.hid_le H Z).rdl h1).sq, by rw [RpA.length h2]; exact Post.ok (R := RE S) h (.int _)⟩
      | tup h1 h2 => exact .inl ⟨_, _, rfl, .inr ((Gr.hid_le H Z).sqT h1), by rw [RpA.length h2]; exact Post.ok (R := RE S) h (.int _)⟩
      | str x =>
        unfold dLen at h
        simp only at h
        split at h
        · rename_i hl
          exact .inr ⟨x, rfl, line_ge hl, Post.ok (R := RE S) h (.int _)⟩
        · exact False.elim h
      | _ => exact False.elim h
def dAbs : List D → Rv D
  | [.int i] => .ok (.int (if i < 0 then -i else i))
  | _ => .un
@[simp] theorem dAbs_i (i : Int) : dAbs [.int i] = .ok (.int (if i < 0 then -i else i)) := rfl
theorem on_abs : OpN S (fun xs H Q => ∃ i, xs = [.int i] ∧ Q (.int (if i < 0 then -i else i)) H) dAbs := by
  intro xs ds H Z Q σ z r h
  cases r with
  | nil => exact False.elim h
  | cons r1 r2 =>
    cases r2 with
    | cons _ _ => cases r1 <;> exact False.elim h
    | nil =>
      cases r1 with
      | int i => exact ⟨i, rfl, Post.ok (R := RE S) h (.int _)⟩
      | _ => exact False.elim h
def dMax : List D → Rv D
  | [.int i, .int j] => .ok (.int (if j > i then j else i))
  | _ => .un
@[simp] theorem dMax_i (i j : Int) : dMax [.int i, .int j] = .ok (.int (if j > i then j else i)) := rfl
theorem on_max : OpN S (fun xs H Q => ∃ i j, xs = [.int i, .int j] ∧ Q (.int (if j > i then j else i)) H) dMax := by
  intro xs ds H Z Q σ z r h
  cases r with
  | nil => exact False.elim h
  | cons r1 r2 =>
    cases r2 with
    | nil => cases r1 <;> exact False.elim h
    | cons r2 r3 =>
      cases r3 with
      | cons _ _ => cases r1 <;> cases r2 <;> exact False.elim h
      | nil =>
        cases r1 with
        | int i =>
          cases r2 with
          | int j => exact ⟨i, j, rfl, Post.ok (R := RE S) h (.int _)⟩
          | _ => exact False.elim h
        | _ => exact False.elim h
def dMin : List D → Rv D
  | [.int i, .int j] => .ok (.int (if j < i then j else i))
  | _ => .un
@[simp] theorem dMin_i (i j : Int) : dMin [.int i, .int j] = .ok (.int (if j < i then j else i)) := rfl
theorem on_min : OpN S (fun xs H Q => ∃ i j, xs = [.int i, .int j] ∧ Q (.int (if j < i then j else i)) H) dMin := by
  intro xs ds H Z Q σ z r h
  cases r with
  | nil => exact False.elim h
  | cons r1 r2 =>
    cases r2 with
    | nil => cases r1 <;> exact False.elim h
    | cons r2 r3 =>
      cases r3 with
      | cons _ _ => cases r1 <;> cases r2 <;> exact False.elim h
      | nil =>
        cases r1 with
        | int i =>
          cases r2 with
          | int j => exact ⟨i, j, rfl, Post.ok (R := RE S) h (.int _)⟩
          | _ => exact False.elim h
        | _ => exact False.elim h
/-- int(a whole number), int(a truth) -/
def dInt : List D → Rv D
  | [.int i] => .ok (.int i)
  | [.bool k] => .ok (.int (if k then 1 else 0))
  | _ => .un
@[simp] theorem dInt_i (i : Int) : dInt [.int i] = .ok (.int i) := rfl
@[simp] theorem dInt_b (k : Bool) : dInt [.bool k] = .ok (.int (if k then 1 else 0)) := rfl
theorem on_int : OpN S (fun xs H Q => (∃ i, xs = [.int i] ∧ Q (.int i) H) ∨ ∃ k, xs = [.bl k] ∧ Q (.int (if k then 1 else 0)) H) dInt := by
  intro xs ds H Z Q σ z r h
  cases r with
  | nil => exact False.elim h
  | cons r1 r2 =>
    cases r2 with
    | cons _ _ => cases r1 <;> exact False.elim h
    | nil =>
      cases r1 with
      | int i => exact .inl ⟨i, rfl, Post.ok (R := RE S) h (.int _)⟩
      | bl i => exact .inr ⟨i, rfl, Post.ok (R := RE S) h (.int _)⟩
      | _ => exact False.elim h
def dList : List D → Rv (List D)
  | [.list xs] => .ok xs
  | [.tuple xs] => .ok xs
  | _ => .un
@[simp] theorem dList_l (xs : List D) : dList [.list xs] = .ok xs := rfl
@[simp] theorem dList_t (xs : List D) : dList [.tuple xs] = .ok xs := rfl
theorem on_list : OpNF S (fun xs H Q => ∃ p ys, xs = [.ref p] ∧ (SqL S.K H p ys ∨ SqT S.K H p ys) ∧ ∀ l, H l = none → Q (.ref l) (upd H l (.lst ys))) dList := by
  intro xs ds H Z Q σ z r h
  cases r with
  | nil => exact False.elim h
  | cons r1 r2 =>
    cases r2 with
    | cons _ _ => cases r1 <;> exact False.elim h
    | nil =>
      cases r1 with
      | lst h1 h2 => exact ⟨_, _, rfl, .inl ((Gr.hid_le H Z).rdl h1).sq, fun l hl => h (l, _) H (Gr.refl H) h2 hl⟩
      | tup h1 h2 => exact ⟨_, _, rfl, .inr ((Gr.hid_le H Z).sqT h1), fun l hl => h (l, _) H (Gr.refl H) h2 hl⟩
      | _ => exact False.elim h
def dTuple : List D → Rv D
  | [.list xs] => .ok (.tuple xs)
  | [.tuple xs] => .ok (.tuple xs)
  | _ => .un
@[simp] theorem dTuple_l (xs : List D) : dTuple [.list xs] = .ok (.tuple xs) := rfl
@[simp] theorem dTuple_t (xs : List D) : dTuple [.tuple xs] = .ok (.tuple xs) := rfl
theorem on_tuple : OpN S (fun xs H Q => ∃ p ys, xs = [.ref p] ∧ ((SqL S.K H p ys ∧ ∀ l, H l = none → Q (.ref l) (upd H l (.tup ys))) ∨ (SqT S.K H p ys ∧ Q (.ref p) H))) dTuple := by
  intro xs ds H Z Q σ z r h
  cases r with
  | nil => exact False.elim h
  | cons r1 r2 =>
    cases r2 with
    | cons _ _ => cases r1 <;> exact False.elim h
    | nil =>
      cases r1 with
      | lst h1 h2 => exact ⟨_, _, rfl, .inl ⟨((Gr.hid_le H Z).rdl h1).sq, fun l hl => Post.newT z h h2 hl⟩⟩
      | tup h1 h2 => exact ⟨_, _, rfl, .inr ⟨(Gr.hid_le H Z).sqT h1, Post.ok (R := RE S) h (.tup h1 h2)⟩⟩
      | _ => exact False.elim h
end

/-! ### a def by its body -/
section
variable {P : Program} {w : World} {K : PySem.W.Frag} {mg : Str → Option Value} {base : Heap}
def entry (n : Nat) (ds : List D) : Env' := ds.map .fz ++ List.replicate n .un
/-- what a body's end is to the caller -/
def Res.fin : Res → Rv D
  | .rt d => .ok d
  | .nx _ => .ok .none
  | .xc x => .xc x
  | _ => .un
def wAll (E : XK) : WX := fun cls d _ H => E cls d H
theorem at_body {k : Nat} {N ps : List Str} {qual : Str} {sc : Scope} {f : Addr} {cdv : Value} {A : Around} {outer : List Env} {s : Shared} {H : Hp} {E : XK} (sco : FnScope N ps sc) (hgd : A.guards = some []) {tr : Nat} (hr : Room k (A.deeper (envOfC qual sc s.heap.objs.size f cdv))) :
    Sx.At ⟨⟨P, w, K, mg, base⟩, k, N, sc, wAll E, true, fun _ => true, tr⟩ (cxOf (L2.CX P w) P w K mg base N qual sc f cdv A outer s H E) where
  hP := rfl
  hw := rfl
  hK := rfl
  hmg := rfl
  hb := rfl
  hN := rfl
  hsc := rfl
  nd := sco.nd
  calm := rfl
  gd := hgd
  hr := hr
  tk := takes_of rfl rfl rfl rfl
  fnl := fun _ _ _ => .inl rfl
  pass := fun _ => passes_of rfl
  body := fun _ => ⟨rfl, rfl, rfl⟩
theorem fnG_of {x qual : Str} {st : Stmt} {f : Addr} {fd : FuncData} {N ps : List Str} {k n m tr : Nat} {G : Env' → Res} (F : Fun K x qual st f fd) (S : FnScope N ps (defScope st)) (hn : ps.length = n) (hm : N.length = n + m)
    (body : ∀ E : XK, SemSs ⟨⟨P, w, K, mg, base⟩, k, N, defScope st, wAll E, true, fun _ => true, tr⟩ (defBody st) G) :
    FnG P w K mg base (k + 1) f fd ps (spT ⟨P, w, K, mg⟩ mg n tr fun ds => (G (entry m ds)).fin) := by
  obtain ⟨oc, od, kV, doc, pm, an, cdv, ct, osl, rfl, lk, hcd⟩ := F.ex
  have len : ∀ vs H Q E, spT ⟨P, w, K, mg⟩ mg n tr (fun ds => (G (entry m ds)).fin) vs H Q E → vs.length = ps.length := fun vs H Q E ⟨Z, ds, h1, _⟩ => h1.trans hn.symm
  refine ⟨len, fun A outer s H args us vs Q E hgd hr e0 hb r hsp => ?_⟩
  have hl := len _ _ _ _ hsp
  have KX : K.In s.heap := e0.mod.kin.keeps fun b o e => (e0.bs b o e).1
  have lim : s.heap.NoLimit := e0.mod.nolimit.keeps fun b o e => (e0.bs b o e).1
  have kinds : ∀ y ∈ ps.zip us, (defScope st).names.lookup y.1 = some .local ∨ ((defScope st).names.lookup y.1 = some .cell ∧ ((cellsFrom (s.heap.objs.size + 1) (defScope st).names []).lookup y.1).isSome = true) := by
    intro y hy
    exact (S.par y.1 (List.of_mem_zip (show (y.1, y.2) ∈ ps.zip us from hy)).1).imp id fun q => ⟨q, PySem.W.cellsFrom_some _ _ _ (.inl q)⟩
  refine codeAny_call_function hr.depth (KX _ _ lk) rfl S.co S.gen rfl (PySem.W.codeRec_of KX hcd) (hb _ _ _ _ ?_)
  refine wpAny_newFunctionEnv_cells S.kind kinds ?_
  rintro env rfl s1 x
  refine ⟨lim.keeps x.toInCall.keep, codeAny_func ?_⟩
  obtain ⟨t, pt, q⟩ := (body E).ex
  have pt := pt _ (at_body S (s := s) (H := H) (outer := outer) (f := f) (cdv := cdv) (qual := qual) hgd (hr.deeper _))
  have I : Inv (cxOf (L2.CX P w) P w K mg base N qual (defScope st) f cdv A outer s H E) [] (L2.start N vs) H s1 := inv_start S hr.hd e0 hl r x
  obtain ⟨Z, ds, hvl, z, rd, hq⟩ := hsp
  have hq : PostDT ⟨P, w, K, mg⟩ mg tr E Z H Q (G (entry m ds)).fin := hq
  have hdl := RpA.length rd
  have eN : L2.start N vs = vs.map some ++ List.replicate m none := by
    unfold L2.start
    rw [show N.length - vs.length = m by omega]
  have hk : Ok ⟨P, w, K, mg⟩ (hid H Z) H Z (entry m ds) (L2.start N vs) H := by
    have noown : ∀ (i n : Nat) (d : D), (entry m ds)[i]? ≠ some (.ow n d) := by
      intro i n d h
      unfold entry at h
      rcases Nat.lt_or_ge i ds.length with hi | hi
      · rw [List.getElem?_append_left (by simpa using hi), List.getElem?_map] at h
        cases e : ds[i]? with
        | none => rw [e] at h; cases h
        | some y => rw [e] at h; cases h
      · rw [List.getElem?_append_right (by simpa using hi), List.getElem?_replicate] at h
        split at h <;> cases h
    have hzz : ∀ a, hz Z (entry m ds) (fun _ => []) [] a → Z a := fun a h => h.elim id fun ⟨i, n, d, h1, _⟩ => absurd h1 (noown i n d)
    have e : Gr (hid H Z) (hid H (hz Z (entry m ds) (fun _ => []) [])) := (Gr.refl H).hid2 hzz
    refine ⟨fun _ => [], ⟨by rw [eN]; simp [entry, hdl], fun i d h => ?_, fun i n d h => absurd h (noown i n d), fun i j n _ d _ h => absurd h (noown i n d), Gr.refl H, e, z⟩⟩
    unfold entry at h
    rcases Nat.lt_or_ge i ds.length with hi | hi
    · rw [List.getElem?_append_left (by simpa using hi), List.getElem?_map] at h
      cases ed : ds[i]? with
      | none => rw [ed] at h; cases h
      | some y =>
        rw [ed] at h
        cases h
        obtain ⟨v, hv, rv⟩ := RpA.get rd ed
        refine ⟨v, ?_, rv.gr e⟩
        rw [eN, List.getElem?_append_left (by simp; omega), List.getElem?_map, hv]
        rfl
    · rw [List.getElem?_append_right (by simpa using hi), List.getElem?_replicate] at h
      split at h <;> cases h
  have hpost : PostS ⟨⟨P, w, K, mg, base⟩, k, N, defScope st, wAll E, true, fun _ => true, tr⟩ (hid H Z) H Z { nx := fun _ H' => Q .non H', rt := Q } (G (entry m ds)) := by
    cases eG : G (entry m ds) with
    | un => rw [eG] at hq; exact hq
    | bk ρ => rw [eG] at hq; exact False.elim hq
    | ct ρ => rw [eG] at hq; exact False.elim hq
    | nx ρ => rw [eG] at hq; exact fun σ' H' ⟨o, k'⟩ => hq .non H' [] k'.gr (fun a h => by cases h) (.leaf rfl .non)
    | rt d => rw [eG] at hq; exact fun v H' U e hU r => hq v H' U e hU r
    | xc y => rw [eG] at hq; exact fun cls dx _ H' e _ r => hq cls dx H' e r
  refine wpAny_mono (pt.run [] s1 (L2.start N vs) H _ I (q _ _ _ _ _ _ _ hk hpost)) ?_ fun e s' hs => hs
  intro fl s' hs
  have fin : ∀ {σ' : L2.St} {H' : Hp} {v : V} {u : Value}, Inv (cxOf (L2.CX P w) P w K mg base N qual (defScope st) f cdv A outer s H E) [] σ' H' s' → RelV v u → Q v H' → CE outer P w H s Q u s' := by
    intro σ' H' v u J rv q
    exact ⟨v, H', J.os, J.bare, J.base, J.hok, rv, q⟩
  match fl, hs with
  | .ret u, ⟨v, σ', H', J, rv, q⟩ => exact fin J rv q
  | .next, ⟨σ', H', J, q⟩ => exact fin (v := V.non) (u := Value.none) J rfl q
  | .brk, ⟨_, _, _, q⟩ => exact False.elim q
  | .cont, ⟨_, _, _, q⟩ => exact False.elim q
end
end Bv

namespace Bv
open PySem PySem.Spec L2 PyProof.Rows
section
variable {S : Sx}
theorem PI.or {X : Cx} {tg e : Expr} {w1 w2 : TI} (h1 : PI X tg e w1) (h2 : PI X tg e w2) : PI X tg e (fun σ H R => w1 σ H R ∨ w2 σ H R) :=
  ⟨fun pins s σ H R I h => h.elim (h1.run pins s σ H R I) (h2.run pins s σ H R I)⟩

/-! ### targets of a for -/
structure SemTg (S : Sx) (tg : Expr) (b : D → Env' → Option Env') : Prop where
  ex : ∃ g : TG, (∀ X, S.At X → PG X tg g) ∧ ∀ d v ρ ρ' F H0 Z o σ H Q, OkAt S.c F H0 Z ρ o σ H → Rp S.c F v d → b d ρ = some ρ' → (∀ σ', OkAt S.c F H0 Z ρ' o σ' H → Q σ' H) → g v σ H Q
def bName (i : Nat) (d : D) (ρ : Env') : Option Env' := some (ρ.set i (.fz d))
theorem tg_name (i : Nat) {x : Str} {pos : Pos} (hi : S.N[i]? = some x := by rfl) (hx : L2.Loc S.sc x := by first | exact Or.inl rfl | exact Or.inr rfl) (hst : S.st x = true := by rfl) : SemTg S (.Name x pos) (bName i) :=
  ⟨⟨_, fun X hX => pg_name hX.nd (by rw [hX.hN]; exact hi) (by rw [hX.hsc]; exact hx) (hX.fnl x hx hst), fun d v ρ ρ' F H0 Z o σ H Q k r e q => by
    cases e
    exact q _ (k.put (r.gr k.fr))⟩⟩
def bTup (is : List Nat) (d : D) (ρ : Env') : Option Env' := match d with | .tuple ds => setAll is ds ρ | _ => none
theorem setAll_len : ∀ {is : List Nat} {ds : List D} {ρ ρ' : Env'}, setAll is ds ρ = some ρ' → is.length = ds.length
  | [], [], _, _, _ => rfl
  | i :: is, d :: ds, _, _, e => by simp [setAll_len (is := is) (ds := ds) (by simpa [setAll] using e)]
  | [], _ :: _, _, _, e => by cases e
  | _ :: _, [], _, _, e => by cases e
theorem tg_tup {ts : List Expr} {is : List Nat} {kt : Nat} {pt : Pos} (hg : SemG S ts is) (hn : ∀ env, (assignEach ts env).length = is.length := by intro _; rfl) (hst : ∀ env, (assignEach ts env).findIdx? (·.1) = none := by intro _; rfl) : SemTg S (.Tuple ts kt pt) (bTup is) := by
  refine ⟨⟨gTup S.K is.length (gNames is), fun X hX => ?_, fun d v ρ ρ' F H0 Z o σ H Q k r e q => ?_⟩⟩
  · rw [← hX.hK]
    exact pg_tup hX.calm (hg.ex X hX) (hn _) (hst _)
  · cases r with
    | @tup a xs ds r1 r2 =>
      exact ⟨a, xs, rfl, (k.fr.trans (Gr.hid_le _ _)).sqT r1, by rw [RpA.length r2, setAll_len e], setAll_run k r2 e q⟩
    | _ => cases e

/-! ### for -/
def forL (b : D → Env' → Option Env') (g : Env' → Res) : List D → Env' → Res
  | [], ρ => .nx ρ
  | d :: r, ρ => match b d ρ with
    | none => .un
    | some ρ1 => match g ρ1 with
      | .nx ρ2 => forL b g r ρ2
      | .ct ρ2 => forL b g r ρ2
      | .bk ρ2 => .nx ρ2
      | e => e
theorem Ok.keep {c : Cz} {F F' H0 : Hp} {Z : Addr → Prop} {ρ : Env'} {σ : L2.St} {H : Hp} (k : Ok c F H0 Z ρ σ H) (e : Gr F' F) : Ok c F' H0 Z ρ σ H := let ⟨o, k⟩ := k; ⟨o, k.keep (e.trans k.fr)⟩
/-- one turn of a for: the item is stored, the body runs -/
theorem turn_run {b : D → Env' → Option Env'} {g : Env' → Res} {tg : TG} {tb : TS} (hb : ∀ d v ρ ρ' F H0 Z o σ H Q, OkAt S.c F H0 Z ρ o σ H → Rp S.c F v d → b d ρ = some ρ' → (∀ σ', OkAt S.c F H0 Z ρ' o σ' H → Q σ' H) → tg v σ H Q) (hg : TellsS S tb g)
    {F F1 H0 : Hp} {Z : Addr → Prop} {Dn : Ends} {d : D} {r : List D} {ρ : Env'} {σ : L2.St} {H : Hp} {v : V} {Nx : L2.St → Hp → Prop} (eF : Gr F F1) (k : Ok S.c F1 H0 Z ρ σ H) (rv : Rp S.c F1 v d) (h : PostS S F H0 Z Dn (forL b g (d :: r) ρ))
    (hN : ∀ ρ' σ' H', Ok S.c F1 H0 Z ρ' σ' H' → PostS S F H0 Z Dn (forL b g r ρ') → Nx σ' H') : tg v σ H fun σ2 H2 => tb { Dn with nx := Nx, ct := Nx, bk := Dn.nx } σ2 H2 := by
  obtain ⟨o, k⟩ := k
  unfold forL at h
  cases eb : b d ρ with
  | none => simp only [eb] at h; exact False.elim h
  | some ρ1 =>
    simp only [eb] at h
    refine hb d v ρ ρ1 F1 H0 Z o σ H _ k rv eb fun σ2 k2 => ?_
    refine hg ρ1 F1 H0 Z σ2 H _ ⟨o, k2⟩ ?_
    cases eg : g ρ1 with
    | un => simp only [eg] at h; exact h
    | nx ρ2 => simp only [eg] at h; exact fun σ' H' k' => hN ρ2 σ' H' k' h
    | ct ρ2 => simp only [eg] at h; exact fun σ' H' k' => hN ρ2 σ' H' k' h
    | bk ρ2 => simp only [eg] at h; exact fun σ' H' k' => h σ' H' (k'.keep eF)
    | rt x => simp only [eg] at h; exact h
    | xc x => simp only [eg] at h; exact fun cls dx σ' H' e1 e2 r => h cls dx σ' H' e1 (eF.trans e2) r
def items : D → Option (List D)
  | .list xs => some xs
  | .tuple xs => some xs
  | _ => none
def sfor (M : List Nat) (b : D → Env' → Option Env') (f : Vw → Rv D) (g : Env' → Res) (ρ : Env') : Res := (f (vw M ρ)).st fun d => match items d with
  | some xs => forL b g xs (if imm d = true then ρ else frz M ρ)
  | none => .un
theorem drop_cons {A : Type} {xs : List A} {i : Nat} {x : A} (h : xs[i]? = some x) : xs.drop i = x :: xs.drop (i + 1) := by
  obtain ⟨h1, h2⟩ := List.getElem?_eq_some_iff.mp h
  rw [List.drop_eq_getElem_cons h1, h2]
/-- for target in a list, a tuple -/
theorem ss_for {tg iter : Expr} {body : List Stmt} {b : D → Env' → Option Env'} {f : Vw → Rv D} {g : Env' → Res} {pos : Pos} (M : List Nat) (ht : SemTg S tg b) (hi : SemE S iter f) (hb : SemSs S body g) (hdf : S.df = true := by rfl)
    (hs : ∀ env x, foldedSetIterable iter env x = pure x := by intro _ _; rfl) : SemS S (.For tg iter body [] pos) (sfor M b f g) := by
  obtain ⟨ti, pi, qi⟩ := hi.ex
  obtain ⟨tt, pt, qt⟩ := ht.ex
  obtain ⟨tb, pb, qb⟩ := hb.ex
  refine ⟨⟨tFor (fun σ H R => iList S.K ti σ H R ∨ iTup S.K ti σ H R) tt tb, fun X hX => ?_, fun ρ F H0 Z σ H Dn ⟨o, k⟩ h => ?_⟩⟩
  · rw [← hX.hK]
    exact ps_for (hX.pass hdf) hX.calm (PI.or (pi_list (pi X hX)) (pi_tup (pi X hX))) (pt X hX) (pb X hX) (hs _)
  · unfold sfor at h
    cases ef : f (vw M ρ) with
    | un => rw [ef] at h; exact False.elim h
    | xc x =>
      refine .inl (qi (vw M ρ) σ H (hz Z ρ o M) _ k.hin k.view ?_)
      rw [ef] at h ⊢
      exact fun cls dx H' e q => h cls dx σ H' (k.gr.trans e) (k.out e) (q.gr ((Gr.refl H').hid2 fun a z => .inl z))
    | ok d =>
      rw [ef] at h
      have h : PostS S F H0 Z Dn (match items d with | some xs => forL b g xs (if imm d = true then ρ else frz M ρ) | none => .un) := h
      -- the state at the loop's start, all that is seen kept
      have start : ∀ {v : V} {H' : Hp}, OkAt S.c F H0 Z ρ o σ H' → Rp S.c (hid H' (hz Z ρ o M)) v d → ∃ F1, Gr F F1 ∧ Ok S.c F1 H0 Z (if imm d = true then ρ else frz M ρ) σ H' ∧ Rp S.c F1 v d := by
        intro v H' k' r
        by_cases hm : imm d = true
        · rw [if_pos hm]
          exact ⟨_, k'.fr, ⟨o, k'.keep (Gr.refl _)⟩, k'.imm hm r⟩
        · rw [if_neg hm]
          have k3 := k'.freeze M
          exact ⟨_, k3.fr, ⟨o, k3.keep (Gr.refl _)⟩, by rw [hid_frz]; exact r⟩
      cases d with
      | list ds =>
        refine .inl (qi (vw M ρ) σ H (hz Z ρ o M) _ k.hin k.view ?_)
        rw [ef]
        intro v H' e r
        have k' := k.grow e
        obtain ⟨F1, eF, k1, r1⟩ := start k' r
        cases r1 with
        | @lst a xs _ r1 r2 =>
          refine ⟨a, rfl, (by cases r with | lst q _ => exact ⟨_, ((Gr.hid_le _ _).rdl q).sq⟩), ?_⟩
          have := for_list (K := S.K) (a := a) (xs := xs) (g := tt) (tb := tb) (D := Dn) (σ := σ) (H := H') (fun i σ' H2 => ∃ ρ', Ok S.c F1 H0 Z ρ' σ' H2 ∧ PostS S F H0 Z Dn (forL b g (ds.drop i) ρ')) ⟨_, k1, h⟩
            (fun i σ' H2 _ ⟨ρ', ⟨o', k2⟩, _⟩ => ((k2.fr.trans (Gr.hid_le _ _)).rdl r1).sq) ?_ ?_
          · exact this
          · rintro i x σ' H2 hx ⟨ρ', k2, hp⟩
            obtain ⟨d, hd, rd⟩ := RpA.got r2 hx
            rw [drop_cons hd] at hp
            exact turn_run qt qb eF k2 rd hp fun ρ2 σ3 H3 k3 h3 => ⟨ρ2, k3, h3⟩
          · rintro σ' H2 ⟨ρ', k2, hp⟩
            rw [RpA.length r2, List.drop_length] at hp
            exact hp σ' H2 (k2.keep eF)
      | tuple ds =>
        refine .inr (qi (vw M ρ) σ H (hz Z ρ o M) _ k.hin k.view ?_)
        rw [ef]
        intro v H' e r
        have k' := k.grow e
        obtain ⟨F1, eF, k1, r1⟩ := start k' r
        cases r1 with
        | @tup a xs _ r1 r2 =>
          refine ⟨a, rfl, (by cases r with | tup q _ => exact ⟨_, (Gr.hid_le _ _).sqT q⟩), ?_⟩
          have := for_tup (K := S.K) (a := a) (xs := xs) (g := tt) (tb := tb) (D := Dn) (σ := σ) (H := H') (fun i σ' H2 => ∃ ρ', Ok S.c F1 H0 Z ρ' σ' H2 ∧ PostS S F H0 Z Dn (forL b g (ds.drop i) ρ')) ⟨_, k1, h⟩
            (fun i σ' H2 _ ⟨ρ', ⟨o', k2⟩, _⟩ => (k2.fr.trans (Gr.hid_le _ _)).sqT r1) ?_ ?_
          · exact this
          · rintro i x σ' H2 hx ⟨ρ', k2, hp⟩
            obtain ⟨d, hd, rd⟩ := RpA.got r2 hx
            rw [drop_cons hd] at hp
            exact turn_run qt qb eF k2 rd hp fun ρ2 σ3 H3 k3 h3 => ⟨ρ2, k3, h3⟩
          · rintro σ' H2 ⟨ρ', k2, hp⟩
            rw [RpA.length r2, List.drop_length] at hp
            exact hp σ' H2 (k2.keep eF)
      | _ => exact False.elim h
/-- for target in range(n), range(a, n) -/
def rangeD (lo hi : Int) : List D := (List.range (hi - lo).toNat).map fun i => .int (lo + (i : Nat))
def rngOk (i : Int) : Bool := decide (-(2 ^ 62) ≤ i ∧ i < 2 ^ 62)
def rng1 : List D → Rv (List D)
  | [.int n] => if rngOk n = true then .ok (rangeD 0 n) else .un
  | _ => .un
def rng2 : List D → Rv (List D)
  | [.int a, .int n] => if rngOk a = true ∧ rngOk n = true then .ok (rangeD a n) else .un
  | _ => .un
theorem rng1_i (n : Int) : rng1 [.int n] = if rngOk n = true then .ok (rangeD 0 n) else .un := rfl
theorem rng2_i (a n : Int) : rng2 [.int a, .int n] = if rngOk a = true ∧ rngOk n = true then .ok (rangeD a n) else .un := rfl
def sforR (rg : List D → Rv (List D)) (M : List Nat) (b : D → Env' → Option Env') (f : Vw → Rv (List D)) (g : Env' → Res) (ρ : Env') : Res := ((f (vw M ρ)).bind rg).st fun xs => forL b g xs ρ
theorem rangeD_get {lo hi : Int} {i : Nat} (h : i < (hi - lo).toNat) : (rangeD lo hi)[i]? = some (.int (lo + (i : Nat))) := by
  unfold rangeD
  rw [List.getElem?_map, List.getElem?_range h]; rfl
theorem rangeD_len (lo hi : Int) : (rangeD lo hi).length = (hi - lo).toNat := by simp [rangeD]
theorem forR_run {b : D → Env' → Option Env'} {g : Env' → Res} {tt : TG} {tb : TS} (qt : ∀ d v ρ ρ' F H0 Z o σ H Q, OkAt S.c F H0 Z ρ o σ H → Rp S.c F v d → b d ρ = some ρ' → (∀ σ', OkAt S.c F H0 Z ρ' o σ' H → Q σ' H) → tt v σ H Q) (qb : TellsS S tb g)
    {F H0 : Hp} {Z : Addr → Prop} {Dn : Ends} {ρ : Env'} {σ : L2.St} {H : Hp} {lo hi : Int} (k : Ok S.c F H0 Z ρ σ H) (h : PostS S F H0 Z Dn (forL b g (rangeD lo hi) ρ)) :
    ∃ W : Nat → Nat → L2.St → Hp → Prop, (∃ m, W 0 m σ H) ∧ ∀ i m σ H, W i m σ H →
      ((Itr lo (hi - lo).toNat).stop i H ∧ Dn.nx σ H) ∨ ((Itr lo (hi - lo).toNat).go i H ∧ ∃ N : L2.St → Hp → Prop, (∀ σ' H', N σ' H' → ∃ m', m' < m ∧ W (i + 1) m' σ' H') ∧ ∀ x H', (Itr lo (hi - lo).toNat).yld i H x H' → tt x σ H' fun σ2 H2 => tb { Dn with nx := N, ct := N, bk := Dn.nx } σ2 H2) := by
  refine for_range (lo := lo) (n := (hi - lo).toNat) (fun i σ' H2 => ∃ ρ', Ok S.c F H0 Z ρ' σ' H2 ∧ PostS S F H0 Z Dn (forL b g ((rangeD lo hi).drop i) ρ')) ⟨ρ, k, h⟩ ?_ ?_
  · rintro i σ' H2 hx ⟨ρ', k2, hp⟩
    rw [drop_cons (rangeD_get hx)] at hp
    exact turn_run qt qb (Gr.refl F) k2 (.int _) hp fun ρ2 σ3 H3 k3 h3 => ⟨ρ2, k3, h3⟩
  · rintro σ' H2 ⟨ρ', k2, hp⟩
    rw [← rangeD_len, List.drop_length] at hp
    exact hp σ' H2 k2
theorem ss_forR1 {tg a : Expr} {body : List Stmt} {b : D → Env' → Option Env'} {f : Vw → Rv (List D)} {g : Env' → Res} {p pos pos' : Pos} (M : List Nat) (hm : S.mg "range" = none) (ht : SemTg S tg b) (hi : SemA S [a] f) (hb : SemSs S body g) (hdf : S.df = true := by rfl)
    (hg : S.sc.names.lookup ("range" : Str) = some .globalImplicit := by rfl) (hst : ∀ env, starEach [a] env = [(false, eval a env)] := by intro _; rfl) : SemS S (.For tg (.Call (.Name "range" p) [a] [] pos) body [] pos') (sforR rng1 M b f g) := by
  obtain ⟨ti, pi, qi⟩ := hi.ex
  obtain ⟨tt, pt, qt⟩ := ht.ex
  obtain ⟨tb, pb, qb⟩ := hb.ex
  refine ⟨⟨tFor (iRng1 ti) tt tb, fun X hX => ?_, fun ρ F H0 Z σ H Dn ⟨o, k⟩ h => ?_⟩⟩
  · exact ps_for (hX.pass hdf) hX.calm (pi_range1 (by show X.env.scope.names.lookup ("range" : Str) = _; rw [hX.hsc]; exact hg) (by rw [hX.hmg]; exact hm) (pi X hX) (hst _)) (pt X hX) (pb X hX) (by intro _; rfl)
  · unfold sforR at h
    refine qi (vw M ρ) σ H (hz Z ρ o M) _ k.hin k.view ?_
    cases ef : f (vw M ρ) with
    | un => rw [ef] at h; exact False.elim h
    | xc x =>
      rw [ef] at h
      exact fun cls dx H' e q => h cls dx σ H' (k.gr.trans e) (k.out e) (q.gr ((Gr.refl H').hid2 fun a z => .inl z))
    | ok ds =>
      rw [ef] at h
      have h : PostS S F H0 Z Dn ((rng1 ds).st fun xs => forL b g xs ρ) := h
      intro vs H' e r
      cases r with
      | nil => exact False.elim h
      | cons r1 r2 =>
        cases r2 with
        | cons _ _ => cases r1 <;> exact False.elim h
        | nil =>
          cases r1 with
          | int n =>
            rw [rng1_i] at h
            split at h
            · rename_i hn
              have hn := of_decide_eq_true hn
              refine ⟨n, rfl, hn.1, hn.2, ?_⟩
              have := forR_run (tt := tt) (lo := 0) (hi := n) qt qb ⟨o, k.grow e⟩ h
              rw [Int.sub_zero] at this
              exact this
            · exact False.elim h
          | _ => exact False.elim h
theorem ss_forR2 {tg a a2 : Expr} {body : List Stmt} {b : D → Env' → Option Env'} {f : Vw → Rv (List D)} {g : Env' → Res} {p pos pos' : Pos} (M : List Nat) (hm : S.mg "range" = none) (ht : SemTg S tg b) (hi : SemA S [a, a2] f) (hb : SemSs S body g) (hdf : S.df = true := by rfl)
    (hg : S.sc.names.lookup ("range" : Str) = some .globalImplicit := by rfl) (hst : ∀ env, starEach [a, a2] env = [(false, eval a env), (false, eval a2 env)] := by intro _; rfl) (hst2 : ∀ env, starEach [a2] env = [(false, eval a2 env)] := by intro _; rfl) : SemS S (.For tg (.Call (.Name "range" p) [a, a2] [] pos) body [] pos') (sforR rng2 M b f g) := by
  obtain ⟨ti, pi, qi⟩ := hi.ex
  obtain ⟨tt, pt, qt⟩ := ht.ex
  obtain ⟨tb, pb, qb⟩ := hb.ex
  refine ⟨⟨tFor (iRng2 ti) tt tb, fun X hX => ?_, fun ρ F H0 Z σ H Dn ⟨o, k⟩ h => ?_⟩⟩
  · exact ps_for (hX.pass hdf) hX.calm (pi_range2 (by show X.env.scope.names.lookup ("range" : Str) = _; rw [hX.hsc]; exact hg) (by rw [hX.hmg]; exact hm) (pi X hX) (hst _) (hst2 _)) (pt X hX) (pb X hX) (by intro _; rfl)
  · unfold sforR at h
    refine qi (vw M ρ) σ H (hz Z ρ o M) _ k.hin k.view ?_
    cases ef : f (vw M ρ) with
    | un => rw [ef] at h; exact False.elim h
    | xc x =>
      rw [ef] at h
      exact fun cls dx H' e q => h cls dx σ H' (k.gr.trans e) (k.out e) (q.gr ((Gr.refl H').hid2 fun a z => .inl z))
    | ok ds =>
      rw [ef] at h
      have h : PostS S F H0 Z Dn ((rng2 ds).st fun xs => forL b g xs ρ) := h
      intro vs H' e r
      cases r with
      | nil => exact False.elim h
      | cons r1 r2 =>
        cases r2 with
        | nil => cases r1 <;> exact False.elim h
        | cons r2 r3 =>
          cases r3 with
          | cons _ _ => cases r1 <;> cases r2 <;> exact False.elim h
          | nil =>
            cases r1 with
            | int a =>
              cases r2 with
              | int n =>
                rw [rng2_i] at h
                split at h
                · rename_i hn
                  have h1 := of_decide_eq_true hn.1
                  have h2 := of_decide_eq_true hn.2
                  exact ⟨a, n, rfl, ⟨h1.1, h1.2, h2.1, h2.2⟩, forR_run (tt := tt) qt qb ⟨o, k.grow e⟩ h⟩
                · exact False.elim h
              | _ => exact False.elim h
            | _ => exact False.elim h

/-! ### while -/
def whileL (M : List Nat) (c : Vw → Rv Bool) (g : Env' → Res) : Nat → Env' → Res
  | 0, _ => .un
  | n + 1, ρ => (c (vw M ρ)).st fun b => if b = true then (match g ρ with
      | .nx ρ' => whileL M c g n ρ'
      | .ct ρ' => whileL M c g n ρ'
      | .bk ρ' => .nx ρ'
      | e => e) else .nx ρ
theorem ss_while {c : Expr} {body : List Stmt} {fc : Vw → Rv Bool} {g : Env' → Res} {pos : Pos} (M : List Nat) (fuel : Env' → Nat) (hc : SemT S c fc) (hb : SemSs S body g) (hdf : S.df = true := by rfl) : SemS S (.While c body [] pos) (fun ρ => whileL M fc g (fuel ρ) ρ) := by
  obtain ⟨tc, pc, qc⟩ := hc.ex
  obtain ⟨tb, pb, qb⟩ := hb.ex
  refine ⟨⟨tWhile tc tb, fun X hX => ps_while (hX.pass hdf) (pc X hX) (pb X hX), fun ρ F H0 Z σ H Dn k h => ?_⟩⟩
  refine ⟨fun m σ' H' => ∃ ρ', Ok S.c F H0 Z ρ' σ' H' ∧ PostS S F H0 Z Dn (whileL M fc g m ρ'), ⟨_, ρ, k, h⟩, ?_⟩
  rintro m σ1 H1 ⟨ρ1, ⟨o, k1⟩, h1⟩
  cases m with
  | zero => exact False.elim h1
  | succ n =>
    unfold whileL at h1
    refine qc (vw M ρ1) σ1 H1 (hz Z ρ1 o M) _ k1.hin k1.view (run_e (R := RT) k1 h1 fun d v H' _ k' r h' => ?_)
    cases (show v = d from r)
    cases d with
    | false => exact h' σ1 H' ⟨o, k'⟩
    | true =>
      refine ⟨fun σ' H' => ∃ ρ', Ok S.c F H0 Z ρ' σ' H' ∧ PostS S F H0 Z Dn (whileL M fc g n ρ'), fun σ' H' ⟨ρ', q1, q2⟩ => ⟨n, Nat.lt_succ_self n, ρ', q1, q2⟩, ?_⟩
      refine qb ρ1 F H0 Z σ1 H' _ ⟨o, k'⟩ ?_
      have h' : PostS S F H0 Z Dn (match g ρ1 with | .nx ρ' => whileL M fc g n ρ' | .ct ρ' => whileL M fc g n ρ' | .bk ρ' => .nx ρ' | e => e) := h'
      cases eg : g ρ1 with
      | un => rw [eg] at h'; exact h'
      | nx ρ2 => rw [eg] at h'; exact fun σ' H2 k2 => ⟨ρ2, k2, h'⟩
      | ct ρ2 => rw [eg] at h'; exact fun σ' H2 k2 => ⟨ρ2, k2, h'⟩
      | bk ρ2 => rw [eg] at h'; exact h'
      | rt x => rw [eg] at h'; exact h'
      | xc x => rw [eg] at h'; exact h'
end
end Bv

namespace Bv
open PySem PySem.Spec L2 PyProof.Rows

/-! ### values that are trees of one's own -/
section
variable {S : Sx}
def PostX (S : Sx) (n : Nat) (σ : L2.St) (Z : Addr → Prop) (H : Hp) (Q : VK) : Rv D → Prop
  | .un => False
  | .ok d => ∀ v H' U, Gr H H' → (∀ a ∈ U, H a = none) → Tree S.c (hid H' fun a => Z a ∨ a ∈ U) H' n v d U → Q v H'
  | .xc x => ∀ cls dx H', Gr H H' → XcR S.c S.mg (hid H' Z) x cls dx → S.W cls dx σ H'
def PostXA (S : Sx) (n : Nat) (σ : L2.St) (Z : Addr → Prop) (H : Hp) (Q : List V → Hp → Prop) : Rv (List D) → Prop
  | .un => False
  | .ok ds => ∀ vs H' U, Gr H H' → (∀ a ∈ U, H a = none) → TreeA S.c (hid H' fun a => Z a ∨ a ∈ U) H' n vs ds U → Q vs H'
  | .xc x => ∀ cls dx H', Gr H H' → XcR S.c S.mg (hid H' Z) x cls dx → S.W cls dx σ H'
def PostFX (S : Sx) (n : Nat) (σ : L2.St) (Z : Addr → Prop) (H : Hp) (Q : VK) : Rv (List D) → Prop
  | .un => False
  | .ok ds => ∀ p vs H' U, Gr H H' → (∀ a ∈ U, H a = none) → TreeA S.c (hid H' fun a => Z a ∨ a ∈ U) H' n vs ds U → H' p = none → Q (.ref p) (upd H' p (.lst vs))
  | .xc x => ∀ cls dx H', Gr H H' → XcR S.c S.mg (hid H' Z) x cls dx → S.W cls dx σ H'
theorem PostX.gr {n : Nat} {σ : L2.St} {Z : Addr → Prop} {H H1 : Hp} {Q : VK} (e : Gr H H1) : ∀ {r : Rv D}, PostX S n σ Z H Q r → PostX S n σ Z H1 Q r
  | .un, h => h
  | .ok _, h => fun v H' U e' hU t => h v H' U (e.trans e') (fun a ha => e.free (hU a ha)) t
  | .xc _, h => fun cls dx H' e' r => h cls dx H' (e.trans e') r
theorem PostFX.gr {n : Nat} {σ : L2.St} {Z : Addr → Prop} {H H1 : Hp} {Q : VK} (e : Gr H H1) : ∀ {r : Rv (List D)}, PostFX S n σ Z H Q r → PostFX S n σ Z H1 Q r
  | .un, h => h
  | .ok _, h => fun p v H' U e' hU t => h p v H' U (e.trans e') (fun a ha => e.free (hU a ha)) t
  | .xc _, h => fun cls dx H' e' r => h cls dx H' (e.trans e') r
abbrev TellsX (S : Sx) (n : Nat) (t : TE) (f : Vw → Rv D) : Prop := ∀ η σ H Z Q, In Z H → Vok S.c (hid H Z) η σ → PostX S n σ Z H Q (f η) → t σ H Q
abbrev TellsXA (S : Sx) (n : Nat) (t : TA) (f : Vw → Rv (List D)) : Prop := ∀ η σ H Z Q, In Z H → Vok S.c (hid H Z) η σ → PostXA S n σ Z H Q (f η) → t σ H Q
abbrev TellsFX (S : Sx) (n : Nat) (t : TE) (f : Vw → Rv (List D)) : Prop := ∀ η σ H Z Q, In Z H → Vok S.c (hid H Z) η σ → PostFX S n σ Z H Q (f η) → t σ H Q
structure SemX (S : Sx) (n : Nat) (e : Expr) (f : Vw → Rv D) : Prop where
  ex : ∃ t, (∀ X, S.At X → PE X e t) ∧ TellsX S n t f
structure SemXA (S : Sx) (n : Nat) (es : List Expr) (f : Vw → Rv (List D)) : Prop where
  ex : ∃ t, (∀ X, S.At X → PA X es t) ∧ TellsXA S n t f

theorem PostX.of {n : Nat} {σ : L2.St} {Z : Addr → Prop} {H : Hp} {Q : VK} : ∀ {r : Rv D}, (∀ d, r = .ok d → n = 0 ∨ imm d = true) → PostX S n σ Z H Q r → Post S (RE S) σ Z H Q r
  | .un, _, h => h
  | .ok d, i, h => fun v H' e r => h v H' [] e (fun a h => by cases h) (Tree.of0 (i d rfl) r)
  | .xc _, _, h => h
theorem sx_e {e : Expr} {f : Vw → Rv D} (h : SemE S e f) : SemX S 0 e f := by
  obtain ⟨t, p, q⟩ := h.ex
  exact ⟨⟨t, p, fun η σ H Z Q z hη h => q η σ H Z Q z hη (h.of fun _ _ => .inl rfl)⟩⟩
def immF (f : Vw → Rv D) (η : Vw) : Rv D := (f η).bind fun d => if imm d = true then .ok d else .un
theorem sx_i {n : Nat} {e : Expr} {f : Vw → Rv D} (h : SemE S e f) : SemX S n e (immF f) := by
  obtain ⟨t, p, q⟩ := h.ex
  refine ⟨⟨t, p, fun η σ H Z Q z hη h => q η σ H Z Q z hη ?_⟩⟩
  unfold immF at h
  cases e : f η with
  | un => rw [e] at h; exact h
  | xc x => rw [e] at h; exact h
  | ok d =>
    rw [e] at h
    simp only [Rv.bind_ok] at h
    split at h
    · rename_i hi
      exact h.of fun d' ed => by cases ed; exact .inr hi
    · exact False.elim h
theorem sx_F {e : Expr} {f : Vw → Rv (List D)} (h : SemF S e f) : SemX S 1 e (lstD f) := by
  obtain ⟨t, p, q⟩ := h.ex
  refine ⟨⟨t, p, fun η σ H Z Q z hη h => q η σ H Z Q z hη ?_⟩⟩
  unfold lstD at h
  cases e : f η with
  | un => rw [e] at h; exact h
  | xc x => rw [e] at h; exact h
  | ok ds =>
    rw [e] at h
    intro pv H' e1 r hp
    have e2 : Gr (hid H' Z) (hid (upd H' pv.1 (.lst pv.2)) fun a => Z a ∨ a ∈ [pv.1]) := fun a o q => by
      obtain ⟨q1, q2⟩ := hid_some q
      have na : a ≠ pv.1 := ne_of_none q2 hp
      rw [hid_no (fun y => y.elim q1 fun y => na (List.mem_singleton.mp y)), upd_ne na]
      exact q2
    exact h _ _ [pv.1] (e1.trans (Gr.new hp)) (fun a ha => by rw [List.mem_singleton.mp ha]; exact e1.free hp) (.lst upd_same (TreeA.leaves (RpA.gr e2 r)) (by simp))

def immL (f : Vw → Rv (List D)) (η : Vw) : Rv (List D) := (f η).bind fun ds => if immA ds = true then .ok ds else .un
theorem TreeA.imms {c : Cz} {Hv Hv' H H' : Hp} {n : Nat} {vs : List V} : ∀ {ds : List D}, immA ds = true → RpA c Hv' vs ds → TreeA c Hv' H n vs ds [] := by
  induction vs with
  | nil => intro ds _ h; cases h; exact .nil
  | cons v vs ih =>
    intro ds i h
    cases h with
    | cons h1 h2 =>
      rw [immA, Bool.and_eq_true] at i
      exact .cons (U := []) (W := []) (.leaf i.1 h1) (ih i.2 h2) (fun a h => by cases h)
theorem sx_Fi {n : Nat} {e : Expr} {f : Vw → Rv (List D)} (h : SemF S e f) : SemX S (n + 1) e (lstD (immL f)) := by
  obtain ⟨t, p, q⟩ := h.ex
  refine ⟨⟨t, p, fun η σ H Z Q z hη h => q η σ H Z Q z hη ?_⟩⟩
  unfold lstD immL at h
  cases e : f η with
  | un => rw [e] at h; exact h
  | xc x => rw [e] at h; exact h
  | ok ds =>
    rw [e] at h
    simp only [Rv.bind_ok] at h
    by_cases hi : immA ds = true
    · rw [if_pos hi] at h
      intro pv H' e1 r hp
      have e2 : Gr (hid H' Z) (hid (upd H' pv.1 (.lst pv.2)) fun a => Z a ∨ a ∈ [pv.1]) := fun a o q => by
        obtain ⟨q1, q2⟩ := hid_some q
        have na : a ≠ pv.1 := ne_of_none q2 hp
        rw [hid_no (fun y => y.elim q1 fun y => na (List.mem_singleton.mp y)), upd_ne na]
        exact q2
      exact h _ _ [pv.1] (e1.trans (Gr.new hp)) (fun a ha => by rw [List.mem_singleton.mp ha]; exact e1.free hp) (.lst upd_same (TreeA.imms (Hv := hid H' Z) (H' := H') hi (RpA.gr e2 r)) (by simp))
    · rw [if_neg hi] at h
      exact False.elim h

/-- arguments that are trees -/
theorem sxa_nil {n : Nat} : SemXA S n [] anil := ⟨⟨_, fun _ _ => pa_nil, fun η σ H Z Q z hη h => h [] H [] (Gr.refl H) (fun a h => by cases h) .nil⟩⟩
theorem or_sub {Z : Addr → Prop} {U W : List Addr} (h : ∀ a ∈ U, a ∈ W) : ∀ a, (Z a ∨ a ∈ U) → Z a ∨ a ∈ W := fun a q => q.imp id (h a)
theorem sxa_cons {n : Nat} {e : Expr} {es : List Expr} {f : Vw → Rv D} {g : Vw → Rv (List D)} (he : SemX S n e f) (hs : SemXA S n es g) (h : ∀ env, starEach (e :: es) env = (false, eval e env) :: starEach es env := by intro _; rfl) : SemXA S n (e :: es) (acons f g) := by
  obtain ⟨t, p, q⟩ := he.ex
  obtain ⟨ts, ps, qs⟩ := hs.ex
  refine ⟨⟨_, fun X hX => pa_cons (p X hX) (ps X hX) (h _), fun η σ H Z Q z hη h => ?_⟩⟩
  refine q η σ H Z _ z hη ?_
  unfold acons at h
  cases e1 : f η with
  | un => rw [e1] at h; exact False.elim h
  | xc x => rw [e1] at h; exact h
  | ok d =>
    rw [e1] at h
    intro v H1 U g1 hU t1
    have zU : In (fun a => Z a ∨ a ∈ U) H1 := fun a q => q.elim (z.gr g1 a) fun q => t1.some q
    have gv : Gr (hid H Z) (hid H1 fun a => Z a ∨ a ∈ U) := fun a o w => by
      obtain ⟨w1, w2⟩ := hid_some w
      rw [hid_no (fun y => y.elim w1 fun y => by rw [hU a y] at w2; cases w2)]
      exact g1 _ _ w2
    refine qs η σ H1 (fun a => Z a ∨ a ∈ U) _ zU (hη.gr gv) ?_
    cases e2 : g η with
    | un => rw [e2] at h; exact False.elim h
    | xc x => rw [e2] at h; exact fun cls dx H' g2 r => h cls dx H' (g1.trans g2) (r.gr ((Gr.refl H').hid2 fun a y => .inl y))
    | ok ds =>
      rw [e2] at h
      intro vs H2 W g2 hW t2
      have dis : ∀ a ∈ U, a ∉ W := fun a ha hb => t1.some ha (hW a hb)
      have sub : ∀ a, (Z a ∨ a ∈ U ++ W) → ((Z a ∨ a ∈ U) ∨ a ∈ W) := fun a q => by
        rcases q with q | q
        · exact .inl (.inl q)
        · rcases List.mem_append.mp q with q | q
          · exact .inl (.inr q)
          · exact .inr q
      have gv2 : Gr (hid H1 fun a => Z a ∨ a ∈ U) (hid H2 fun a => Z a ∨ a ∈ U ++ W) := fun a o w => by
        obtain ⟨w1, w2⟩ := hid_some w
        rw [hid_no (fun y => (sub a y).elim w1 fun y => by rw [hW a y] at w2; cases w2)]
        exact g2 _ _ w2
      have same : ∀ a ∈ U, H2 a = H1 a := fun a ha => by
        cases w : H1 a with
        | none => exact absurd w (t1.some ha)
        | some o => exact g2 _ _ w
      exact h _ H2 (U ++ W) (g1.trans g2) (fun a ha => (List.mem_append.mp ha).elim (hU a) fun q => g1.free (hW a q)) (.cons (t1.gr gv2 same) (TreeA.gr ((Gr.refl H2).hid2 sub) (fun _ _ => rfl) t2) dis)
theorem sx_tup {n : Nat} {es : List Expr} {x1} {pos : Pos} {f : Vw → Rv (List D)} (h : SemXA S (n + 1) es f) : SemX S (n + 1) (.Tuple es x1 pos) (tupD f) := by
  obtain ⟨t, p, q⟩ := h.ex
  refine ⟨⟨_, fun X hX => pe_tup (p X hX), fun η σ H Z Q z hη h => ?_⟩⟩
  refine q η σ H Z _ z hη ?_
  unfold tupD at h
  cases e : f η with
  | un => rw [e] at h; exact h
  | xc x => rw [e] at h; exact h
  | ok ds =>
    rw [e] at h
    intro vs H1 U g1 hU t1
    have hl := TreeA.length t1
    simp only [Rv.bind_ok] at h
    split at h
    · rename_i hd
      refine ⟨line_ge (by omega), fun p hp => ?_⟩
      have np : ∀ a ∈ U, a ≠ p := fun a ha q => by
        obtain ⟨xs, w, _⟩ := t1.lists a ha
        rw [q, hp] at w
        cases w
      refine h _ _ U (g1.trans (Gr.new hp)) hU (.tup (.inl (.inl ?_)) (TreeA.gr ((Gr.new hp).hid _) (fun a ha => upd_ne (np a ha)) t1))
      rw [hid_no fun y => y.elim (fun y => z.gr g1 p y hp) fun y => np p y rfl, upd_same]
    · exact False.elim h
theorem PostX.newL {n : Nat} {σ : L2.St} {Z : Addr → Prop} {H : Hp} {Q : VK} {vs : List V} {ds : List D} {U : List Addr} {p : Addr} (h : PostX S (n + 1) σ Z H Q (.ok (.list ds))) {H1 : Hp} (g1 : Gr H H1) (hU : ∀ a ∈ U, H a = none)
    (t1 : TreeA S.c (hid H1 fun a => Z a ∨ a ∈ U) H1 n vs ds U) (hp : H1 p = none) : Q (.ref p) (upd H1 p (.lst vs)) := by
  have np : ∀ a ∈ U, a ≠ p := fun a ha q => by
    obtain ⟨xs, w, _⟩ := t1.lists a ha
    rw [q, hp] at w
    cases w
  have e2 : Gr (hid H1 fun a => Z a ∨ a ∈ U) (hid (upd H1 p (.lst vs)) fun a => Z a ∨ a ∈ p :: U) := fun a o q => by
    obtain ⟨q1, q2⟩ := hid_some q
    have na : a ≠ p := ne_of_none q2 hp
    rw [hid_no (fun y => y.elim (fun y => q1 (.inl y)) fun y => (List.mem_cons.mp y).elim na fun y => q1 (.inr y)), upd_ne na]
    exact q2
  exact h _ _ (p :: U) (g1.trans (Gr.new hp)) (fun a ha => (List.mem_cons.mp ha).elim (fun q => by rw [q]; exact g1.free hp) (hU a)) (.lst upd_same (TreeA.gr e2 (fun a ha => upd_ne (np a ha)) t1) fun q => np p q rfl)
theorem sx_lst {n : Nat} {es : List Expr} {pos : Pos} {f : Vw → Rv (List D)} (h : SemXA S n es f) : SemX S (n + 1) (.List es pos) (lstD (lstF f)) := by
  obtain ⟨t, p, q⟩ := h.ex
  refine ⟨⟨_, fun X hX => pe_lst (p X hX), fun η σ H Z Q z hη h => ?_⟩⟩
  refine q η σ H Z _ z hη ?_
  unfold lstD lstF at h
  cases e : f η with
  | un => rw [e] at h; exact h
  | xc x => rw [e] at h; exact h
  | ok ds =>
    rw [e] at h
    intro vs H1 U g1 hU t1
    have hl := TreeA.length t1
    simp only [Rv.bind_ok] at h
    split at h
    · rename_i hd
      exact ⟨line_ge (by omega), fun p hp => h.newL g1 hU t1 hp⟩
    · exact False.elim h

/-- a function of the text, linked, that tells a tree of its own -/
structure LkT (T : Wd) (k : Nat) (x : Str) (n tr : Nat) (g : List D → Rv D) : Prop where
  ex : ∃ (f : Addr) (fd : FuncData) (ps : List Str), FnG T.P T.w T.K T.mg T.base k f fd ps (spT T.c T.mg n tr g) ∧ T.mg x = some (.ref f) ∧ PySem.W.keepIn T.K (.ref f) = true ∧ Binds T.K fd ps [] ∧ ps.length = n
theorem LkT.lk {T : Wd} {k : Nat} {x : Str} {n tr : Nat} {g : List D → Rv D} (F : LkT T k x n tr g) : Lk T k x n g :=
  let ⟨f, fd, ps, h1, h2, h3, h4, h5⟩ := F.ex; ⟨f, fd, ps, h1.weak h5, h2, h3, h4⟩
theorem sx_call {k n tr : Nat} {x : Str} {g : List D → Rv D} {e : Expr} {es : List Expr} {fa : Vw → Rv (List D)} {p pos : Pos} (F : LkT S.toWd k x n tr g) (ha : SemA S (e :: es) fa) (hlen : ∀ η ds, fa η = .ok ds → ds.length = n) (hk : Nat.ble k S.k = true := by rfl)
    (hg : S.sc.names.lookup x = some .globalImplicit := by rfl) (hdb : (x == ("__debug__" : Str)) = false := by decide) (he : ∀ env, starEach (e :: es) env = (false, eval e env) :: starEach es env := by intro _; rfl)
    (hpl : ∀ env, (backTo pos (starEach es env)).any (·.1) = false := by intro _; rfl) : SemX S tr (.Call (.Name x p) (e :: es) [] pos) (cal g fa) := by
  obtain ⟨f, fd, ps, F, hm, hkp, hb, hpl2⟩ := F.ex
  obtain ⟨t, pa, q⟩ := ha.ex
  refine ⟨⟨fun σ H Q => t σ H fun vs H1 => spT S.c S.mg n tr g vs H1 Q (WE S.W σ), fun X hX => ⟨fun pins s σ H Q I h => ?_⟩, fun η σ H Z Q z hη h => ?_⟩⟩
  · have hg' : Gl X x := by show X.env.scope.names.lookup x = _; rw [hX.hsc]; exact hg
    refine wpAny_Call_Name_kw (ld_glob I hg' (by rw [hX.hmg]; exact hm) ?_ hdb)
    refine PySem.W.callWith_K (h₀ := X.base) I.ok.mod.kin (by rw [hX.hK]; exact hkp) (thn ((pa X hX).run pos pins s σ H _ I h) ?_) (he _) (hpl _)
    intro us s1 ⟨vs, H1, I1, r, q1⟩
    refine ⟨I1.kIn, run_fnG ?_ hX.gd (hX.hr.mono (Nat.le_of_ble_eq_true hk)) (by rw [hX.hK]; exact hb) (passAt hX.tk σ) I1 r q1⟩
    rw [hX.hP, hX.hw, hX.hK, hX.hmg, hX.hb]
    exact F
  · refine q η σ H Z _ z hη ?_
    unfold cal at h
    cases e1 : fa η with
    | un => rw [e1] at h; exact h
    | xc x => rw [e1] at h; exact h
    | ok ds =>
      rw [e1] at h
      intro vs H1 g1 r1
      refine ⟨Z, ds, by rw [RpA.length r1, hlen η ds e1], z.gr g1, r1, ?_⟩
      have h := PostX.gr g1 (show PostX S tr σ Z H Q (g ds) from h)
      cases e2 : g ds with
      | un => rw [e2] at h; exact h
      | xc x => rw [e2] at h; exact h
      | ok d => rw [e2] at h; exact h

/-! ### statements -/
theorem run_x {n : Nat} {F H0 H : Hp} {Z : Addr → Prop} {ρ : Env'} {o : Nat → List Addr} {σ : L2.St} {M : List Nat} {T : VK} {r : Rv D} {f : D → Res} {Dn : Ends}
    (k : OkAt S.c F H0 Z ρ o σ H) (h : PostS S F H0 Z Dn (r.st f)) (go : ∀ d v H' U, r = .ok d → Gr H H' → (∀ a ∈ U, H a = none) → Tree S.c (hid H' fun a => hz Z ρ o M a ∨ a ∈ U) H' n v d U → PostS S F H0 Z Dn (f d) → T v H') :
    PostX S n σ (hz Z ρ o M) H T r := by
  cases r with
  | un => exact h
  | xc x => exact fun cls dx H' e q => h cls dx σ H' (k.gr.trans e) (k.out e) (q.gr ((Gr.refl H').hid2 fun a z => .inl z))
  | ok b => exact fun v H' U e hU t => go b v H' U rfl e hU t h
def asgX (i n : Nat) (M : List Nat) (f : Vw → Rv D) (ρ : Env') : Res := (f (vw M ρ)).st fun d => if i < ρ.length then .nx ((frz M ρ).set i (.ow n d)) else .un
/-- x = a tree of one's own -/
theorem ss_setX {i n : Nat} {x : Str} {e : Expr} {f : Vw → Rv D} {pos pos' : Pos} (M : List Nat) (he : SemX S n e f) (hi : S.N[i]? = some x := by rfl) (hx : L2.Loc S.sc x := by first | exact Or.inl rfl | exact Or.inr rfl) (hst : S.st x = true := by rfl) (hs : ∀ env, swapsWith e (some (.Name x pos')) pos.line env = pure false := by intro _; rfl) : SemS S (.Assign [.Name x pos'] e pos) (asgX i n M f) := by
  obtain ⟨t, p, q⟩ := he.ex
  refine ⟨⟨_, fun X hX => ps_set hX.nd (by rw [hX.hN]; exact hi) (by rw [hX.hsc]; exact hx) (p X hX) (hs _) (hX.fnl x hx hst), fun ρ F H0 Z σ H Dn ⟨o, k⟩ h => ?_⟩⟩
  refine q (vw M ρ) σ H (hz Z ρ o M) _ k.hin k.view (run_x k h fun d v H' U _ e hU t h' => ?_)
  split at h'
  · rename_i hl
    refine h' _ _ ⟨_, (k.freeze M).layT e hU (by rw [frz_length]; exact hl) fun Hv eh => t.gr (Gr.trans ((Gr.refl H').hid2 fun a y => ?_) eh) fun _ _ => rfl⟩
    exact y.imp (fun y => (hz_frz a).mp y) id
  · exact False.elim h'
theorem ss_retX {n : Nat} {e : Expr} {f : Vw → Rv D} {pos : Pos} (M : List Nat) (he : SemX S n e f) (ht : S.tr = n := by rfl) : SemS S (.Return (some e) pos) (ret M f) := by
  obtain ⟨t, p, q⟩ := he.ex
  refine ⟨⟨_, fun X hX => ps_ret (p X hX), fun ρ F H0 Z σ H Dn ⟨o, k⟩ h => ?_⟩⟩
  refine q (vw M ρ) σ H (hz Z ρ o M) _ k.hin k.view (run_x k h fun d v H' U _ e hU t h' => ?_)
  refine h' v H' U (k.gr.trans e) (fun a ha => k.gr.free (hU a ha)) ?_
  rw [ht]
  exact t.gr ((Gr.refl H').hid2 fun a y => y.imp (fun y => .inl y) id) fun _ _ => rfl

/-! ### x[i][j].append(e), x a tree of one's own -/
structure Zip (c : Cz) (Hv H : Hp) (n : Nat) (v : V) (U : List Addr) (m : Nat) (v' : V) (d' : D) (put : D → D) (U' : List Addr) : Prop where
  tree : Tree c Hv H m v' d' U'
  sub : ∀ a ∈ U', a ∈ U
  back : ∀ Hv2 H2 d2, Gr Hv Hv2 → (∀ a ∈ U, a ∉ U' → H2 a = H a) → Tree c Hv2 H2 m v' d2 U' → Tree c Hv2 H2 n v (put d2) U
theorem Zip.gr {c : Cz} {Hv Hv' H H' : Hp} {n : Nat} {v : V} {U : List Addr} {m : Nat} {v' : V} {d' : D} {put : D → D} {U' : List Addr} (e : Gr Hv Hv') (s : ∀ a ∈ U, H' a = H a) (z : Zip c Hv H n v U m v' d' put U') : Zip c Hv' H' n v U m v' d' put U' :=
  ⟨z.tree.gr e fun a ha => s a (z.sub a ha), z.sub, fun Hv2 H2 d2 e2 k t => z.back Hv2 H2 d2 (e.trans e2) (fun a ha hn => (k a ha hn).trans (s a ha)) t⟩
/-- one member of a row of trees -/
theorem TreeA.member {c : Cz} {Hv H : Hp} {n : Nat} {vs : List V} : ∀ {ds : List D} {U : List Addr} {i : Nat} {d : D}, TreeA c Hv H n vs ds U → ds[i]? = some d →
    ∃ v U', vs[i]? = some v ∧ Tree c Hv H n v d U' ∧ (∀ a ∈ U', a ∈ U) ∧ ∀ Hv2 H2 d2, Gr Hv Hv2 → (∀ a ∈ U, a ∉ U' → H2 a = H a) → Tree c Hv2 H2 n v d2 U' → TreeA c Hv2 H2 n vs (ds.set i d2) U := by
  induction vs with
  | nil => intro ds U i d h e; cases h; simp at e
  | cons w vs ih =>
    intro ds U i d h e
    cases h with
    | @cons _ _ _ d0 ds U1 W h1 h2 h3 =>
      cases i with
      | zero =>
        simp only [List.getElem?_cons_zero, Option.some.injEq] at e
        subst e
        refine ⟨w, U1, rfl, h1, fun a ha => List.mem_append_left _ ha, fun Hv2 H2 d2 e2 k t => .cons t (TreeA.gr e2 (fun a ha => k a (List.mem_append_right _ ha) fun q => h3 a q ha) h2) h3⟩
      | succ i =>
        rw [List.getElem?_cons_succ] at e
        obtain ⟨v, U', q1, q2, q3, q4⟩ := ih h2 e
        refine ⟨v, U', by rw [List.getElem?_cons_succ]; exact q1, q2, fun a ha => List.mem_append_right _ (q3 a ha), fun Hv2 H2 d2 e2 k t => ?_⟩
        refine .cons (h1.gr e2 fun a ha => k a (List.mem_append_left _ ha) fun q => h3 a ha (q3 a q)) (q4 Hv2 H2 d2 e2 (fun a ha hn => k a (List.mem_append_right _ ha) hn) t) h3
abbrev Foc := Nat × D × (D → D)
def pav (_ : Vw) (n : Nat) (d : D) : Rv Foc := .ok (n, d, id)
def foc1 (i : Int) : Foc → Rv Foc
  | (m + 1, .list xs, put) => match ixN xs.length i with | some k => (match xs[k]? with | some x => .ok (m, x, fun y => put (.list (xs.set k y))) | none => .un) | none => .un
  | (m + 1, .tuple xs, put) => if immA xs = true then .un else match ixN xs.length i with | some k => (match xs[k]? with | some x => .ok (m + 1, x, fun y => put (.tuple (xs.set k y))) | none => .un) | none => .un
  | _ => .un
def pai (f : Vw → Nat → D → Rv Foc) (fi : Vw → Rv D) (η : Vw) (n : Nat) (d : D) : Rv Foc := (f η n d).bind fun p => (fi η).bind fun i => match i with | .int i => foc1 i p | _ => .un
def PostP (S : Sx) (σ : L2.St) (Z : Addr → Prop) (n : Nat) (v : V) (U : List Addr) (H : Hp) (Q : VK) : Rv Foc → Prop
  | .un => False
  | .ok (m, d', put) => ∀ v' U' H', Gr H H' → Zip S.c (hid H' Z) H' n v U m v' d' put U' → Q v' H'
  | .xc x => ∀ cls dx H', Gr H H' → XcR S.c S.mg (hid H' Z) x cls dx → S.W cls dx σ H'
structure SemPa (S : Sx) (j : Nat) (e : Expr) (f : Vw → Nat → D → Rv Foc) : Prop where
  ex : ∃ t, (∀ X, S.At X → PE X e t) ∧ ∀ η σ H Z n d v U Q, In Z H → Vok S.c (hid H Z) η σ → σ[j]? = some (some v) → Tree S.c (hid H Z) H n v d U → PostP S σ Z n v U H Q (f η n d) → t σ H Q
theorem spa_var {x : Str} {pos : Pos} (j : Nat) (hN : S.N[j]? = some x := by rfl) (hv : Vis S.sc x := by first | exact Or.inl rfl | exact Or.inr (Or.inl rfl) | exact Or.inr (Or.inr rfl)) (hd : (x == ("__debug__" : Str)) = false := by decide)
    (hcd : (x == ("__classdict__" : Str)) = false := by decide) : SemPa S j (.Name x pos) pav :=
  ⟨⟨_, fun X hX => pe_var (by rw [hX.hN]; exact hN) (by rw [hX.hsc]; exact hv) hd hcd, fun η σ H Z n d v U Q z hη e1 t h => ⟨v, e1, h v U H (Gr.refl H) ⟨t, fun a ha => ha, fun Hv2 H2 d2 e2 k t2 => t2⟩⟩⟩⟩
theorem Tree.same {c : Cz} {Hv H H' : Hp} {n : Nat} {v : V} {d : D} {U : List Addr} (t : Tree c Hv H n v d U) (e : Gr H H') {a : Addr} (ha : a ∈ U) : H' a = H a := by
  cases w : H a with
  | none => exact absurd w (t.some ha)
  | some o => exact e _ _ w
theorem spa_ix {j : Nat} {a b : Expr} {f : Vw → Nat → D → Rv Foc} {fb : Vw → Rv D} {pos : Pos} (ha : SemPa S j a f) (hb : SemE S b fb) (hs : PlainIx b := by intro _ _; rfl) : SemPa S j (.Subscript a b pos) (pai f fb) := by
  obtain ⟨ta, pa, qa⟩ := ha.ex
  obtain ⟨tb, pb, qb⟩ := hb.ex
  refine ⟨⟨_, fun X hX => pe_ix (hX.hK ▸ ix_seq) (pa X hX) (pb X hX) hs, fun η σ H Z n d v U Q z hη e1 t h => ?_⟩⟩
  refine qa η σ H Z n d v U _ z hη e1 t ?_
  unfold pai at h
  cases ef : f η n d with
  | un => rw [ef] at h; exact h
  | xc x => rw [ef] at h; exact h
  | ok p =>
    obtain ⟨m, d', put⟩ := p
    rw [ef] at h
    intro v' U' H1 g1 zp
    refine qb η σ H1 Z _ (z.gr g1) (hη.gr (g1.hid Z)) ?_
    simp only [Rv.bind_ok] at h
    cases eb : fb η with
    | un => rw [eb] at h; exact h
    | xc x => rw [eb] at h; exact fun cls dx H' e q => h cls dx H' (g1.trans e) q
    | ok i =>
      rw [eb] at h
      intro iv H2 g2 ri
      have same : ∀ a ∈ U, H2 a = H1 a := fun a hm => by
        rw [t.same (g1.trans g2) hm, t.same g1 hm]
      have zp := zp.gr (g2.hid Z) same
      simp only [Rv.bind_ok] at h
      cases ri with
      | int i =>
        cases zp.tree with
        | leaf0 r => exact False.elim h
        | leaf im r =>
          have h : PostP S σ Z n v U H Q (foc1 i (m, d', put)) := h
          cases m with
          | zero => exact False.elim h
          | succ m =>
            cases d' with
            | list xs => exact absurd im (by unfold imm; exact Bool.false_ne_true)
            | tuple xs =>
              have h : PostP S σ Z n v U H Q (if immA xs = true then .un else match ixN xs.length i with | some k => (match xs[k]? with | some x => .ok (m + 1, x, fun y => put (.tuple (xs.set k y))) | none => .un) | none => .un) := h
              unfold imm at im
              rw [if_pos im] at h
              exact False.elim h
            | _ => exact False.elim h
        | @lst m a xs ds W h1 h2 h3 =>
          have h : PostP S σ Z n v U H Q (match ixN ds.length i with | some k => (match ds[k]? with | some x => .ok (m, x, fun y => put (.list (ds.set k y))) | none => .un) | none => .un) := h
          cases ei : ixN ds.length i with
          | none => rw [ei] at h; exact False.elim h
          | some k =>
            simp only [ei] at h
            cases ex : ds[k]? with
            | none => rw [ex] at h; exact False.elim h
            | some x =>
              simp only [ex] at h
              obtain ⟨w, W', q1, q2, q3, q4⟩ := TreeA.member h2 ex
              refine .inl ⟨_, _, i, w, rfl, rfl, .inl (.inl h1), by unfold L2.atI; rw [TreeA.length h2, ei]; exact q1, h w W' H2 (g1.trans g2) ⟨q2, fun a ha => zp.sub a (List.mem_cons_of_mem _ (q3 a ha)), fun Hv2 H3 d2 e2 kk t2 => ?_⟩⟩
              have kW : ∀ b ∈ a :: W, b ∉ W' → H3 b = H2 b := fun b hb hn => kk b (zp.sub b hb) hn
              refine zp.back Hv2 H3 _ e2 (fun b hb hn => kk b hb fun q => hn (List.mem_cons_of_mem _ (q3 b q))) ?_
              exact .lst (by rw [kW a List.mem_cons_self fun q => h3 (q3 a q)]; exact h1) (q4 Hv2 H3 d2 e2 (fun b hb hn => kW b (List.mem_cons_of_mem _ hb) hn) t2) h3
        | @tup m a xs ds W h1 h2 =>
          have h : PostP S σ Z n v U H Q (if immA ds = true then .un else match ixN ds.length i with | some k => (match ds[k]? with | some x => .ok (m + 1, x, fun y => put (.tuple (ds.set k y))) | none => .un) | none => .un) := h
          split at h
          · exact False.elim h
          cases ei : ixN ds.length i with
          | none => rw [ei] at h; exact False.elim h
          | some k =>
            simp only [ei] at h
            cases ex : ds[k]? with
            | none => rw [ex] at h; exact False.elim h
            | some x =>
              simp only [ex] at h
              obtain ⟨w, W', q1, q2, q3, q4⟩ := TreeA.member h2 ex
              refine .inr (.inl ⟨_, _, i, w, rfl, rfl, (Gr.hid_le _ _).sqT h1, by unfold L2.atI; rw [TreeA.length h2, ei]; exact q1, h w W' H2 (g1.trans g2) ⟨q2, fun a ha => zp.sub a (q3 a ha), fun Hv2 H3 d2 e2 kk t2 => ?_⟩⟩)
              refine zp.back Hv2 H3 _ e2 (fun b hb hn => kk b hb fun q => hn (q3 b q)) ?_
              exact .tup (e2.sqT h1) (q4 Hv2 H3 d2 e2 (fun b hb hn => kk b (zp.sub b hb) hn) t2)
        | dctK _ _ _ => exact False.elim h
        | dctN _ _ _ _ => exact False.elim h
      | _ => exact False.elim h
theorem run_eg {A B : Type} {R : Hp → A → B → Prop} {F H0 H : Hp} {Z : Addr → Prop} {ρ : Env'} {o : Nat → List Addr} {σ : L2.St} {M : List Nat} {T : A → Hp → Prop} {r : Rv B} {f : B → Res} {Dn : Ends}
    (k : OkAt S.c F H0 Z ρ o σ H) (h : PostS S F H0 Z Dn (r.st f)) (go : ∀ b v H', r = .ok b → Gr H H' → OkAt S.c F H0 Z ρ o σ H' → R (hid H' (hz Z ρ o M)) v b → PostS S F H0 Z Dn (f b) → T v H') :
    Post S R σ (hz Z ρ o M) H T r := by
  cases r with
  | un => exact h
  | xc x => exact fun cls dx H' e q => h cls dx σ H' (k.gr.trans e) (k.out e) (q.gr ((Gr.refl H').hid2 fun a z => .inl z))
  | ok b => exact fun v H' e q => go b v H' rfl e (k.grow e) q h
def appP (j : Nat) (fp : Vw → Nat → D → Rv Foc) (f : Vw → Rv D) (ρ : Env') : Res := match ρ[j]? with
  | some (.ow n d) => (fp (vw [] ρ) n d).st fun p => match p with
    | (_ + 1, .list xs, put) => (f (vw [] ρ)).st fun y => if xs.length < 16000000 ∧ imm y = true then .nx (ρ.set j (.ow n (put (.list (xs ++ [y]))))) else .un
    | _ => .un
  | _ => .un
theorem ss_appP {j : Nat} {b : Expr} {e : Expr} {fp : Vw → Nat → D → Rv Foc} {f : Vw → Rv D} {p2 p3 p4 : Pos} (hb : SemPa S j b fp) (he : SemE S e f) (hbase : ∀ env, attributeBase b "append" env (eval b env) = eval b env := by intro _; rfl)
    (hfew : ∀ env, ((backTo p3 (starEach [e] env)).all (fun x => !x.1) && (backToKw p3 (keywordEach [] env)).all (fun x => x.1.isSome)
      && decide (([e] : List Expr).length + ([] : List Keyword).length + (if ([] : List Keyword).isEmpty then 0 else 1) < 30)) = true := by intro _; rfl)
    (hline : (p2.endLine == p3.line) = true := by rfl) (hs : ∀ env, starEach [e] env = (false, eval e env) :: starEach [] env := by intro _; rfl) (hplain : ∀ env, (backTo p3 (starEach [] env)).any (·.1) = false := by intro _; rfl)
    (hsw : ∀ env, swapsWith (.Call (.Attribute b "append" p2) [e] [] p3) none p4.line env = pure false := by intro _; rfl) : SemS S (.Expr (.Call (.Attribute b "append" p2) [e] [] p3) p4) (appP j fp f) := by
  obtain ⟨tb, pb, qb⟩ := hb.ex
  obtain ⟨t, p, q⟩ := he.ex
  refine ⟨⟨tDrop (tBM S.K "list" rAppend tb (tCons t tNil)), fun X hX => ?_, fun ρ F H0 Z σ H Dn ⟨o, k⟩ h => ?_⟩⟩
  · rw [← hX.hK]
    exact ps_expr (pe_bm PySem.F.plainAttrs_list PySem.F.slot_list_append PySem.F.type_list_append mt_append (pb X hX) (pa_cons (p X hX) pa_nil (hs _)) (hbase _) (hfew _) hline (hs _) (hplain _)) (hsw _)
  unfold appP at h
  split at h
  · rename_i n d hj
    obtain ⟨⟨v0, s1, tr⟩, s2⟩ := k.ow j _ _ hj
    refine qb (vw [] ρ) σ H (hz Z ρ o []) n d v0 (o j) _ k.hin k.view s1 tr ?_
    cases ep : fp (vw [] ρ) n d with
    | un => rw [ep] at h; exact h
    | xc x => rw [ep] at h; exact fun cls dx H' e q => h cls dx σ H' (k.gr.trans e) (k.out e) (q.gr ((Gr.refl H').hid2 fun a z => .inl z))
    | ok pp =>
      obtain ⟨m, d', put⟩ := pp
      rw [ep] at h
      simp only [Rv.st_ok] at h
      intro v' U' H1 g1 zp
      split at h
      · rename_i m' xs put' hq
        cases hq
        obtain ⟨a, vs, W, rfl, rfl, s4, s5, s6⟩ := zp.tree.isL
        refine ⟨.inl ⟨rfl, vs, .inl (.inl s4)⟩, ?_⟩
        have k1 := k.grow g1
        refine q (vw [] ρ) σ H1 (hz Z ρ o []) _ k1.hin k1.view (run_eg k1 h fun y yv H' _ g2 k' r h' => ?_)
        have zp' := zp.gr (H' := H') (g2.hid (hz Z ρ o [])) fun a ha => by rw [tr.same (g1.trans g2) ha, tr.same g1 ha]
        split at h'
        · rename_i hlt
          obtain ⟨a', vs', W', ea, hU', w4, w5, w6⟩ := zp'.tree.isL
          cases ea
          cases hU'
          have hl := TreeA.length w5
          refine ⟨a, vs', yv, rfl, rfl, w4, line_gt (by omega), ?_⟩
          have aIn : a ∈ o j := zp'.sub a List.mem_cons_self
          refine h' _ _ ⟨o, k'.change hj s1 (fun b hb => upd_ne fun z => hb (z ▸ aIn)) fun Hv eh => ?_⟩
          refine zp'.back Hv _ _ eh (fun b hb hn => upd_ne fun z => hn (z ▸ List.mem_cons_self)) ?_
          exact .lst upd_same (TreeA.snoc (.leaf hlt.2 (r.gr eh)) (TreeA.gr eh (fun b hb => upd_ne fun z => w6 (z ▸ hb)) w5)) w6
        · exact False.elim h'
      · exact False.elim h
  · exact False.elim h
end
end Bv

namespace Bv
open PySem PySem.Spec L2 PyProof.Rows

/-! ### comprehensions -/
def Sx.blk (S : Sx) (scope : Scope) : Sx := { S with sc := relS scope S.sc, W := fun _ _ _ _ => False, df := false, st := fun x => scope.names.lookup x == some .local || scope.names.lookup x == some .cell }
theorem Sx.At.blk {S : Sx} {X : Cx} (h : S.At X) (scope : Scope) (s : Shared) (H : Hp) (C : Addr) (cl : List (Str × Addr)) (fp : List Addr) : (S.blk scope).At (X.blk s H scope (compEnvC scope cl C X.env) fp) where
  hP := h.hP
  hw := h.hw
  hK := h.hK
  hmg := h.hmg
  hb := h.hb
  hN := h.hN
  hsc := by show relS scope X.env.scope = relS scope S.sc; rw [h.hsc]
  nd := h.nd
  calm := h.calm
  gd := h.gd
  hr := h.hr
  tk := fun _ _ x => by
    obtain ⟨_, _, _, _, _, _, _, _, _, _, _, _, _, _, _, _, z⟩ := x
    exact z.elim
  fnl := fun x hl hs => by
    have hs : (scope.names.lookup x == some .local || scope.names.lookup x == some .cell) = true := hs
    show (scope.names.lookup x == some .cell) = true ∨ (relS scope X.env.scope).names.lookup x = some .local
    rw [Bool.or_eq_true] at hs
    rcases hs with hs | hs
    · exact .inr (lookup_relS_keep (by decide) (eq_of_beq hs))
    · exact .inl hs
  pass := fun z => by cases z
  body := fun z => by cases z

def wipeV : List Nat → Vw → Vw
  | [], η => η
  | v :: vs, η => (wipeV vs η).set v none
theorem wipeV_length : ∀ (vs : List Nat) (η : Vw), (wipeV vs η).length = η.length
  | [], _ => rfl
  | v :: vs, η => by simp [wipeV, wipeV_length vs]
theorem Vok.wipe {c : Cz} {H : Hp} {η : Vw} {σ : L2.St} (h : Vok c H η σ) : ∀ vs, Vok c H (wipeV vs η) (L2.wipe σ vs)
  | [] => h
  | v :: vs => by
    have ih := Vok.wipe h vs
    refine ⟨by rw [wipeV_length, L2.wipe_length]; exact h.1, fun i d e => ?_⟩
    unfold wipeV at e
    by_cases q : v = i
    · subst q
      rw [List.getElem?_set] at e
      split at e
      · split at e <;> cases e
      · contradiction
    · rw [List.getElem?_set_ne q] at e
      obtain ⟨x, h1, h2⟩ := ih.2 i d e
      exact ⟨x, by unfold L2.wipe; rw [List.getElem?_set_ne q]; exact h1, h2⟩
theorem Vok.put {c : Cz} {H : Hp} {η : Vw} {σ : L2.St} (h : Vok c H η σ) {i : Nat} {v : V} {d : D} (r : Rp c H v d) : Vok c H (η.set i (some d)) (σ.set i (some v)) := by
  refine ⟨by simp; exact h.1, fun j e q => ?_⟩
  have hl := h.1
  by_cases z : i = j
  · subst z
    rw [List.getElem?_set] at q
    split at q
    · split at q
      · cases q
        exact ⟨v, by rw [List.getElem?_set_self (by omega)], r⟩
      · cases q
    · contradiction
  · rw [List.getElem?_set_ne z] at q
    obtain ⟨x, h1, h2⟩ := h.2 j e q
    exact ⟨x, by rw [List.getElem?_set_ne z]; exact h1, h2⟩
theorem wipe_set {σ : L2.St} {i : Nat} {x : Option V} : ∀ {vs : List Nat}, i ∈ vs → L2.wipe (σ.set i x) vs = L2.wipe σ vs
  | [], h => by cases h
  | v :: vs, h => by
    by_cases q : i ∈ vs
    · unfold L2.wipe
      rw [wipe_set q]
    · have e : i = v := (List.mem_cons.mp h).resolve_right q
      subst e
      have key : ∀ ws : List Nat, i ∉ ws → L2.wipe (σ.set i x) ws = (L2.wipe σ ws).set i x := by
        intro ws
        induction ws with
        | nil => intro _; rfl
        | cons w ws ih =>
          intro hw
          rw [List.mem_cons, not_or] at hw
          unfold L2.wipe
          rw [ih hw.2, List.set_comm _ _ hw.1]
      unfold L2.wipe
      rw [key vs q, List.set_set]
/-- a block's target -/
structure SemTv (S : Sx) (tg : Expr) (vs : List Nat) (b : D → Vw → Option Vw) : Prop where
  ex : ∃ g : TG, (∀ X, S.At X → PG X tg g) ∧ ∀ d v η η' σ H Hv Q, Gr Hv H → Vok S.c Hv η σ → Rp S.c Hv v d → b d η = some η' → (∀ σ', Vok S.c Hv η' σ' → L2.wipe σ' vs = L2.wipe σ vs → Q σ' H) → g v σ H Q
def vName (i : Nat) (d : D) (η : Vw) : Option Vw := some (η.set i (some d))
theorem tv_name (i : Nat) {vs : List Nat} {x : Str} {pos : Pos} {S : Sx} (hi : S.N[i]? = some x := by rfl) (hx : L2.Loc S.sc x := by first | exact Or.inl rfl | exact Or.inr rfl) (hst : S.st x = true := by rfl) (hv : i ∈ vs := by decide) : SemTv S (.Name x pos) vs (vName i) :=
  ⟨⟨_, fun X hX => pg_name hX.nd (by rw [hX.hN]; exact hi) (by rw [hX.hsc]; exact hx) (hX.fnl x hx hst), fun d v η η' σ H Hv Q e hη r eb q => by
    cases eb
    exact q _ (hη.put r) (wipe_set hv)⟩⟩
def setAllV : List Nat → List D → Vw → Option Vw
  | [], [], η => some η
  | i :: is, d :: ds, η => setAllV is ds (η.set i (some d))
  | _, _, _ => none
def vTup (is : List Nat) (d : D) (η : Vw) : Option Vw := match d with | .tuple ds => setAllV is ds η | _ => none
theorem setAllV_len : ∀ {is : List Nat} {ds : List D} {ρ ρ' : Vw}, setAllV is ds ρ = some ρ' → is.length = ds.length
  | [], [], _, _, _ => rfl
  | i :: is, d :: ds, _, _, e => by simp [setAllV_len (is := is) (ds := ds) (by simpa [setAllV] using e)]
  | [], _ :: _, _, _, e => by cases e
  | _ :: _, [], _, _, e => by cases e
theorem setAllV_run {c : Cz} {vs : List Nat} {H Hv : Hp} {Q : L2.St → Hp → Prop} {σ0 : L2.St} : ∀ {is : List Nat} {ds : List D} {xs : List V} {η η' : Vw} {σ : L2.St}, (∀ i ∈ is, i ∈ vs) → Vok c Hv η σ → RpA c Hv xs ds → setAllV is ds η = some η' →
    L2.wipe σ vs = L2.wipe σ0 vs → (∀ σ', Vok c Hv η' σ' → L2.wipe σ' vs = L2.wipe σ0 vs → Q σ' H) → gNames is xs σ H Q
  | [], [], _, η, η', σ, _, k, r, e, hw, q => by
    cases r
    cases e
    exact ⟨rfl, q σ k hw⟩
  | i :: is, d :: ds, _, η, η', σ, hi, k, r, e, hw, q => by
    cases r with
    | @cons v vs _ _ r1 r2 =>
      have h1 := hi i List.mem_cons_self
      exact ⟨v, vs, rfl, setAllV_run (η := η.set i (some d)) (fun j hj => hi j (List.mem_cons_of_mem _ hj)) (k.put r1) r2 e ((wipe_set h1).trans hw) q⟩
  | [], _ :: _, _, _, _, _, _, _, _, e, _, _ => by cases e
  | _ :: _, [], _, _, _, _, _, _, _, e, _, _ => by cases e
theorem tv_tup {S : Sx} {ts : List Expr} {is vs : List Nat} {kt : Nat} {pt : Pos} (hg : SemG S ts is) (hi : ∀ i ∈ is, i ∈ vs := by decide) (hn : ∀ env, (assignEach ts env).length = is.length := by intro _; rfl) (hst : ∀ env, (assignEach ts env).findIdx? (·.1) = none := by intro _; rfl) : SemTv S (.Tuple ts kt pt) vs (vTup is) := by
  refine ⟨⟨gTup S.K is.length (gNames is), fun X hX => ?_, fun d v η η' σ H Hv Q e hη r eb q => ?_⟩⟩
  · rw [← hX.hK]
    exact pg_tup hX.calm (hg.ex X hX) (hn _) (hst _)
  · cases r with
    | @tup a xs ds r1 r2 =>
      exact ⟨a, xs, rfl, e.sqT r1, by rw [RpA.length r2, setAllV_len eb], setAllV_run hi hη r2 eb rfl q⟩
    | _ => cases eb

/-- a block's tests: none or one -/
structure SemP (S : Sx) (ifs : List Expr) (f : Vw → Rv Bool) : Prop where
  ex : ∃ t, (∀ X, S.At X → PTs X ifs t) ∧ Tells S RT t f
def yes (_ : Vw) : Rv Bool := .ok true
theorem sp_nil {S : Sx} : SemP S [] yes := ⟨⟨_, fun _ _ => pts_nil, fun _ _ _ _ _ _ _ h => Post.ok (R := RT) h rfl⟩⟩
theorem sp_one {S : Sx} {c : Expr} {f : Vw → Rv Bool} (h : SemT S c f) : SemP S [c] f := let ⟨t, p, q⟩ := h.ex; ⟨⟨t, fun X hX => pts_one (p X hX), q⟩⟩

def Rv.nox {A : Type} (r : Rv A) : Rv A := match r with | .xc _ => .un | r => r
@[simp] theorem Rv.nox_ok {A : Type} (a : A) : (Rv.ok a).nox = .ok a := rfl
@[simp] theorem Rv.nox_un {A : Type} : (Rv.un : Rv A).nox = .un := rfl
def compL (b : D → Vw → Option Vw) (ft : Vw → Rv Bool) (fe : Vw → Rv D) : List D → Vw → Rv (List D)
  | [], _ => .ok []
  | d :: r, η => match b d η with
    | none => .un
    | some η' => (ft η').nox.bind fun k => if k = true then (fe η').nox.bind fun y => (compL b ft fe r η).bind fun ys => .ok (y :: ys) else compL b ft fe r η
theorem compL_nox {b : D → Vw → Option Vw} {ft : Vw → Rv Bool} {fe : Vw → Rv D} : ∀ (xs : List D) (η : Vw) (x : Xc), compL b ft fe xs η ≠ .xc x
  | [], _, _, h => by cases h
  | d :: r, η, x, h => by
    unfold compL at h
    cases eb : b d η with
    | none => simp only [eb] at h; cases h
    | some η' =>
      simp only [eb] at h
      have ih := compL_nox (b := b) (ft := ft) (fe := fe) r η
      cases e1 : ft η' with
      | un => rw [e1] at h; cases h
      | xc x => rw [e1] at h; cases h
      | ok k =>
        rw [e1] at h
        cases k with
        | false => exact ih x h
        | true =>
          cases e2 : fe η' with
          | un => rw [e2] at h; cases h
          | xc x => rw [e2] at h; cases h
          | ok y =>
            rw [e2] at h
            cases e3 : compL b ft fe r η with
            | un => rw [e3] at h; cases h
            | xc z => exact ih z e3
            | ok ys => rw [e3] at h; cases h

theorem del_upd {H : Hp} {p : Addr} {o : HO} (h : H p = some o) : upd (del H p) p o = H := by
  funext a
  by_cases e : a = p
  · subst e; rw [upd_same, h]
  · rw [upd_ne e, del_ne e]
theorem hid_upd {H : Hp} {Z : Addr → Prop} {p : Addr} {o : HO} (h : Z p) : hid (upd H p o) Z = hid H Z := by
  funext a
  by_cases e : Z a
  · rw [hid_yes e, hid_yes e]
  · rw [hid_no e, hid_no e, upd_ne fun q => e (by rw [q]; exact h)]
section
variable {S : Sx}
/-- hidden while a block fills the list at Dl -/
abbrev zf (Z : Addr → Prop) (Dl : Addr) (U : List Addr) : Addr → Prop := fun a => (Z a ∨ a = Dl) ∨ a ∈ U
/-- the state while a block fills the list at Dl -/
def Fills (S : Sx) (n : Nat) (H1 : Hp) (Z : Addr → Prop) (Dl : Addr) (fin : List D) (rest : Rv (List D)) (H : Hp) : Prop :=
  ∃ acc ds more U, H Dl = some (.lst acc) ∧ Gr H1 (del H Dl) ∧ (∀ a ∈ U, H1 a = none ∧ a ≠ Dl) ∧ TreeA S.c (hid H (zf Z Dl U)) H n acc ds U ∧ rest = .ok more ∧ ds ++ more = fin
theorem TreeA.more {c : Cz} {Hv H : Hp} {n : Nat} {v : V} {d : D} {W : List Addr} (hd : Tree c Hv H n v d W) {vs : List V} : ∀ {ds : List D} {U : List Addr}, TreeA c Hv H n vs ds U → (∀ a ∈ U, a ∉ W) → TreeA c Hv H n (vs ++ [v]) (ds ++ [d]) (U ++ W) := by
  induction vs with
  | nil =>
    intro ds U h _
    cases h
    have := TreeA.cons hd (TreeA.nil (c := c) (Hv := Hv) (H := H) (n := n)) (fun a _ h => by cases h)
    rw [List.append_nil] at this
    exact this
  | cons w vs ih =>
    intro ds U h k
    cases h with
    | @cons _ _ _ _ _ U1 W1 h1 h2 h3 =>
      rw [List.append_assoc]
      exact .cons h1 (ih h2 fun a ha => k a (List.mem_append_right _ ha)) fun a ha q => (List.mem_append.mp q).elim (h3 a ha) (k a (List.mem_append_left _ ha))
theorem fill_turn {n : Nat} {scope : Scope} {vs : List Nat} {b : D → Vw → Option Vw} {ft : Vw → Rv Bool} {fe : Vw → Rv D} {g : TG} {tt : TT} {te : TE}
    (qg : ∀ d v η η' σ H Hv Q, Gr Hv H → Vok S.c Hv η σ → Rp S.c Hv v d → b d η = some η' → (∀ σ', Vok S.c Hv η' σ' → L2.wipe σ' vs = L2.wipe σ vs → Q σ' H) → g v σ H Q)
    (qt : Tells (S.blk scope) RT tt ft) (qe : TellsX (S.blk scope) n te fe) {η : Vw} {σ : L2.St} {H1 H : Hp} {Z : Addr → Prop} {Dl : Addr} {fin : List D} {d : D} {r : List D} {v : V} {Nx : Hp → Prop}
    (z : In Z H1) (hη : Vok S.c (hid H1 Z) η σ) (hD : H1 Dl = none) (hf : fin.length ≤ 16000000) (rv : Rp S.c (hid H1 Z) v d) (hww : L2.wipe (L2.wipe σ vs) vs = L2.wipe σ vs)
    (w : Fills S n H1 Z Dl fin (compL b ft fe (d :: r) (wipeV vs η)) H) (k : ∀ H', Fills S n H1 Z Dl fin (compL b ft fe r (wipeV vs η)) H' → Nx H') :
    g v (L2.wipe σ vs) H fun σ2 H2 => L2.wipe σ2 vs = L2.wipe σ vs ∧ tt σ2 H2 fun b H3 => if b = true then te σ2 H3 fun y H4 => ∃ acc, H4 Dl = some (.lst acc) ∧ acc.length < sizeLine ∧ Nx (upd H4 Dl (.lst (acc ++ [y]))) else Nx H3 := by
  obtain ⟨acc, ds, more, U, a1, a2, aU, a3, a4, a5⟩ := w
  have up : ∀ {H3 : Hp}, Gr H H3 → Gr H1 (del H3 Dl) := fun e a o q => by
    have na : a ≠ Dl := ne_of_none q hD
    have := a2 a o q
    rw [del_ne na] at this ⊢
    exact e a o this
  have e0 : Gr (hid H1 Z) (hid H (zf Z Dl U)) := fun a o q => by
    obtain ⟨q1, q2⟩ := hid_some q
    have na : a ≠ Dl := ne_of_none q2 hD
    rw [hid_no (by rintro ((q3 | q3) | q3); exact q1 q3; exact na q3; rw [(aU a q3).1] at q2; cases q2)]
    have := a2 a o q2
    rw [del_ne na] at this
    exact this
  have zin : In (zf Z Dl U) H := by
    rintro a ((q | q) | q)
    · have na : a ≠ Dl := fun e => z a q (e ▸ hD)
      intro n
      cases e : H1 a with
      | none => exact z a q e
      | some o =>
        have := a2 a o e
        rw [del_ne na, n] at this
        cases this
    · rw [q, a1]; exact fun n => by cases n
    · obtain ⟨xs, e, _⟩ := TreeA.lists a3 a q
      rw [e]; exact fun n => by cases n
  unfold compL at a4
  cases eb : b d (wipeV vs η) with
  | none => simp only [eb] at a4; cases a4
  | some η' =>
    simp only [eb] at a4
    refine qg d v (wipeV vs η) η' (L2.wipe σ vs) H _ _ (Gr.hid_le H _) ((hη.wipe vs).gr e0) (rv.gr e0) eb fun σ' hv' hw' => ⟨hw'.trans hww, ?_⟩
    refine qt η' σ' H _ _ zin hv' ?_
    cases e1 : ft η' with
    | un => rw [e1] at a4; cases a4
    | xc x => rw [e1] at a4; cases a4
    | ok kk =>
      rw [e1] at a4
      intro u H3 e3 ru
      have ru : u = kk := ru
      subst ru
      have same : ∀ {H4 : Hp}, Gr H H4 → ∀ a ∈ U, H4 a = H a := fun e a ha => by
        obtain ⟨xs, q, _⟩ := TreeA.lists a3 a ha
        rw [q]; exact e _ _ q
      cases u with
      | false => exact k H3 ⟨acc, ds, more, U, e3 _ _ a1, up e3, aU, TreeA.gr (e3.hid _) (same e3) a3, a4, a5⟩
      | true =>
        refine qe η' σ' H3 _ _ (zin.gr e3) (hv'.gr (e3.hid _)) ?_
        cases e2 : fe η' with
        | un => simp only [Rv.nox_ok, Rv.bind_ok, if_true, e2] at a4; cases a4
        | xc x => simp only [Rv.nox_ok, Rv.bind_ok, if_true, e2] at a4; cases a4
        | ok y =>
          simp only [Rv.nox_ok, Rv.bind_ok, if_true, e2] at a4
          intro yv H4 W e4 hW ry
          cases e5 : compL b ft fe r (wipeV vs η) with
          | un => rw [e5] at a4; cases a4
          | xc x => rw [e5] at a4; cases a4
          | ok ys =>
            rw [e5] at a4
            cases a4
            have e34 := e3.trans e4
            have c1 : H4 Dl = some (.lst acc) := e34 _ _ a1
            have hlen := TreeA.length a3
            have hfl : ds.length + (y :: ys).length = fin.length := by rw [← a5, List.length_append]
            simp only [List.length_cons] at hfl
            have nD : ∀ a ∈ W, a ≠ Dl := fun a ha q => by have := hW a ha; rw [q, e3 _ _ a1] at this; cases this
            have nD' : ∀ a ∈ U ++ W, a ≠ Dl := fun a ha => (List.mem_append.mp ha).elim (fun q => (aU a q).2) (nD a)
            have sub : ∀ a, zf Z Dl (U ++ W) a → zf Z Dl U a ∨ a ∈ W := fun a q => by
              rcases q with q | q
              · exact .inl (.inl q)
              · rcases List.mem_append.mp q with q | q
                · exact .inl (.inr q)
                · exact .inr q
            have gA : Gr (hid H (zf Z Dl U)) (hid H4 (zf Z Dl (U ++ W))) := fun a o q => by
              obtain ⟨q1, q2⟩ := hid_some q
              rw [hid_no fun q3 => (sub a q3).elim q1 fun q4 => by have := hW a q4; rw [e3 _ _ q2] at this; cases this]
              exact e34 _ _ q2
            have gB : Gr (hid H4 fun a => zf Z Dl U a ∨ a ∈ W) (hid H4 (zf Z Dl (U ++ W))) := (Gr.refl H4).hid2 sub
            have dis : ∀ a ∈ U, a ∉ W := fun a ha q => by
              obtain ⟨xs, q2, _⟩ := TreeA.lists a3 a ha
              have := hW a q
              rw [e3 _ _ q2] at this; cases this
            have hu : hid (upd H4 Dl (.lst (acc ++ [yv]))) (zf Z Dl (U ++ W)) = hid H4 (zf Z Dl (U ++ W)) := hid_upd (.inl (.inr rfl))
            refine ⟨acc, c1, line_gt (by omega), k _ ⟨acc ++ [yv], ds ++ [y], ys, U ++ W, upd_same, ?_, ?_, ?_, e5, by rw [List.append_assoc]; exact a5⟩⟩
            · intro a o q
              have na : a ≠ Dl := ne_of_none q hD
              have := up e34 a o q
              rw [del_ne na] at this
              rw [del_ne na, upd_ne na]
              exact this
            · intro a ha
              refine ⟨?_, nD' a ha⟩
              rcases List.mem_append.mp ha with ha | ha
              · exact (aU a ha).1
              · have na := nD a ha
                cases q : H1 a with
                | none => rfl
                | some o =>
                  have := up e3 a o q
                  rw [del_ne na, hW a ha] at this
                  cases this
            · rw [hu]
              have s2 : ∀ a ∈ U ++ W, upd H4 Dl (.lst (acc ++ [yv])) a = H4 a := fun a ha => upd_ne (nD' a ha)
              exact TreeA.gr (Gr.refl _) s2 (TreeA.more (ry.gr gB fun _ _ => rfl) (TreeA.gr gA (same e34) a3) dis)
theorem wipe_wipe (σ : L2.St) (vs : List Nat) : L2.wipe (L2.wipe σ vs) vs = L2.wipe σ vs := by
  have key : ∀ (ws : List Nat), (∀ w ∈ ws, w ∈ vs) → L2.wipe (L2.wipe σ ws) vs = L2.wipe σ vs := by
    intro ws
    induction ws with
    | nil => intro _; rfl
    | cons w ws ih =>
      intro h
      show L2.wipe ((L2.wipe σ ws).set w none) vs = _
      rw [wipe_set (h w List.mem_cons_self)]
      exact ih fun x hx => h x (List.mem_cons_of_mem _ hx)
  exact key vs fun _ h => h
def cmp (vs : List Nat) (b : D → Vw → Option Vw) (ft : Vw → Rv Bool) (fe : Vw → Rv D) (src : Vw → Rv (List D)) (η : Vw) : Rv (List D) := (src η).bind fun xs => if xs.length ≤ 16000000 then compL b ft fe xs (wipeV vs η) else .un
theorem compL_len {b : D → Vw → Option Vw} {ft : Vw → Rv Bool} {fe : Vw → Rv D} : ∀ {xs : List D} {η : Vw} {ys : List D}, compL b ft fe xs η = .ok ys → ys.length ≤ xs.length
  | [], _, _, h => by cases h; exact Nat.le_refl _
  | d :: r, η, ys, h => by
    unfold compL at h
    cases eb : b d η with
    | none => simp only [eb] at h; cases h
    | some η' =>
      simp only [eb] at h
      cases e1 : ft η' with
      | un => rw [e1] at h; cases h
      | xc x => rw [e1] at h; cases h
      | ok k =>
        rw [e1] at h
        cases k with
        | false => exact Nat.le_succ_of_le (compL_len (xs := r) h)
        | true =>
          cases e2 : fe η' with
          | un => simp only [Rv.nox_ok, Rv.bind_ok, if_true, e2] at h; cases h
          | xc x => simp only [Rv.nox_ok, Rv.bind_ok, if_true, e2] at h; cases h
          | ok y =>
            simp only [Rv.nox_ok, Rv.bind_ok, if_true, e2] at h
            cases e3 : compL b ft fe r η with
            | un => rw [e3] at h; cases h
            | xc z => rw [e3] at h; cases h
            | ok zs =>
              rw [e3] at h
              cases h
              exact Nat.succ_le_succ (compL_len (xs := r) e3)
/-- the whole of a comprehension, over whatever is walked: J's items are those of xs -/
structure SemC (S : Sx) (n : Nat) (elt tg iter : Expr) (ifs : List Expr) (scope : Scope) (f : Vw → Rv (List D)) : Prop where
  ex : ∃ (wi : TI) (g : TG) (tt : TT) (te : TE) (own : List (Str × Nat)), (∀ X, S.At X → PI X tg iter wi) ∧ (∀ X, S.At X → BlkOk X.N X.env.scope scope own) ∧ (∀ X, (S.blk scope).At X → PG X tg g) ∧ (∀ X, (S.blk scope).At X → PTs X ifs tt) ∧ (∀ X, (S.blk scope).At X → PE X elt te) ∧
    TellsFX S n (tLc wi g tt te (own.map (·.2))) f
end
end Bv

namespace Bv
open PySem PySem.Spec L2 PyProof.Rows
section
variable {S : Sx}
/-- a block's list is done -/
theorem fill_end {n : Nat} {σ : L2.St} {H1 H : Hp} {Z : Addr → Prop} {Dl : Addr} {fin : List D} {Q : VK} (hD : H1 Dl = none) (z : In Z H1) (h : PostFX S n σ Z H1 Q (.ok fin)) (w : Fills S n H1 Z Dl fin (.ok []) H) : Q (.ref Dl) H := by
  obtain ⟨acc, ds, more, U, a1, a2, aU, a3, a4, a5⟩ := w
  cases a4
  rw [List.append_nil] at a5
  subst a5
  have := h Dl acc (del H Dl) U a2 (fun a ha => (aU a ha).1) (TreeA.gr (fun a o q => ?_) (fun a ha => del_ne (aU a ha).2) a3) del_same
  · rw [← del_upd a1]
    exact this
  · obtain ⟨q1, q2⟩ := hid_some q
    have na : a ≠ Dl := fun e => q1 (.inl (.inr e))
    rw [hid_no fun y => q1 (y.imp .inl id), del_ne na]
    exact q2
theorem fill_start {n : Nat} {H1 : Hp} {Z : Addr → Prop} {Dl : Addr} {fin : List D} {r : Rv (List D)} (hD : H1 Dl = none) (h : r = .ok fin) : Fills S n H1 Z Dl fin r (upd H1 Dl (.lst [])) := by
  refine ⟨[], [], fin, [], upd_same, fun a o q => ?_, fun a h => (by cases h), .nil, h, rfl⟩
  have na : a ≠ Dl := ne_of_none q hD
  rw [del_ne na, upd_ne na]
  exact q
theorem Fills.ex {n : Nat} {H1 H : Hp} {Z : Addr → Prop} {Dl : Addr} {fin : List D} {r : Rv (List D)} (hD : H1 Dl = none) (w : Fills S n H1 Z Dl fin r H) : Gr H1 H := by
  obtain ⟨acc, ds, more, U, a1, a2, _⟩ := w
  intro a o q
  have := a2 a o q
  rw [del_ne (ne_of_none q hD)] at this
  exact this
def srcE (f : Vw → Rv D) (η : Vw) : Rv (List D) := (f η).bind fun d => match items d with | some xs => .ok xs | none => .un
/-- [elt for tg in iter if ..], iter a list or tuple -/
theorem sc_list {n : Nat} {elt tg iter : Expr} {ifs : List Expr} {scope : Scope} {b : D → Vw → Option Vw} {ft : Vw → Rv Bool} {fe : Vw → Rv D} {f : Vw → Rv D} (own : List (Str × Nat)) (vs : List Nat) (hi : SemE S iter f) (hb : blkC S.N S.sc scope own = true) (hg : SemTv (S.blk scope) tg vs b)
    (ht : SemP (S.blk scope) ifs ft) (he : SemX (S.blk scope) n elt fe) (hv : own.map (·.2) = vs := by rfl) : SemC S n elt tg iter ifs scope (cmp vs b ft fe (srcE f)) := by
  obtain ⟨ti, pi, qi⟩ := hi.ex
  obtain ⟨g, pg, qg⟩ := hg.ex
  obtain ⟨tt, pt, qt⟩ := ht.ex
  obtain ⟨te, pe, qe⟩ := he.ex
  refine ⟨⟨fun σ H R => iList S.K ti σ H R ∨ iTup S.K ti σ H R, g, tt, te, own, fun X hX => ?_, fun X hX => blkOk_by (by rw [hX.hN, hX.hsc]; exact hb), pg, pt, pe, hv.symm ▸ (fun η σ H Z Q z hη h => ?_)⟩⟩
  · rw [← hX.hK]
    exact PI.or (pi_list (pi X hX)) (pi_tup (pi X hX))
  · unfold cmp srcE at h
    cases ef : f η with
    | un => rw [ef] at h; exact False.elim h
    | xc x =>
      refine .inl (qi η σ H Z _ z hη ?_)
      rw [ef] at h ⊢
      exact h
    | ok d =>
      rw [ef] at h
      have core : ∀ (xs : List D) (H' : Hp), items d = some xs → Gr H H' → ∃ fin, fin.length ≤ 16000000 ∧ compL b ft fe xs (wipeV vs η) = .ok fin ∧ PostFX S n σ Z H' Q (.ok fin) := by
        intro xs H' ed e
        simp only [Rv.bind_ok, ed] at h
        split at h
        · rename_i hl
          cases ec : compL b ft fe xs (wipeV vs η) with
          | un => rw [ec] at h; exact False.elim h
          | xc x => exact absurd ec (compL_nox _ _ _)
          | ok fin =>
            rw [ec] at h
            exact ⟨fin, Nat.le_trans (compL_len ec) hl, rfl, h.gr e⟩
        · exact False.elim h
      cases d with
      | list ds =>
        refine .inl (qi η σ H Z _ z hη ?_)
        rw [ef]
        intro v H' e r
        obtain ⟨fin, hf, ec, hp⟩ := core ds H' rfl e
        cases r with
        | @lst a xs _ r1 r2 =>
          refine ⟨a, rfl, ⟨xs, ((Gr.hid_le _ _).rdl r1).sq⟩, fun Dl hD => ?_⟩
          refine lc_list (xs := xs) (fun i H2 => Fills S n H' Z Dl fin (compL b ft fe (ds.drop i) (wipeV vs η)) H2) (fill_start hD ec) (fun i H2 _ w => ((w.ex hD).rdl ((Gr.hid_le _ _).rdl r1)).sq) ?_ ?_
          · intro i x H2 hx w
            obtain ⟨d, hd, rd⟩ := RpA.got r2 hx
            have w : Fills S n H' Z Dl fin (compL b ft fe (ds.drop i) (wipeV vs η)) H2 := w
            rw [drop_cons hd] at w
            exact fill_turn (scope := scope) qg qt qe (z.gr e) (hη.gr (e.hid Z)) hD hf rd (wipe_wipe σ _) w fun H3 w3 => w3
          · intro H2 w
            have w : Fills S n H' Z Dl fin (compL b ft fe (ds.drop xs.length) (wipeV vs η)) H2 := w
            rw [RpA.length r2, List.drop_length] at w
            exact fill_end hD (z.gr e) hp w
      | tuple ds =>
        refine .inr (qi η σ H Z _ z hη ?_)
        rw [ef]
        intro v H' e r
        obtain ⟨fin, hf, ec, hp⟩ := core ds H' rfl e
        cases r with
        | @tup a xs _ r1 r2 =>
          refine ⟨a, rfl, ⟨xs, (Gr.hid_le _ _).sqT r1⟩, fun Dl hD => ?_⟩
          refine lc_tup (xs := xs) (fun i H2 => Fills S n H' Z Dl fin (compL b ft fe (ds.drop i) (wipeV vs η)) H2) (fill_start hD ec) (fun i H2 _ w => (w.ex hD).sqT ((Gr.hid_le _ _).sqT r1)) ?_ ?_
          · intro i x H2 hx w
            obtain ⟨d, hd, rd⟩ := RpA.got r2 hx
            have w : Fills S n H' Z Dl fin (compL b ft fe (ds.drop i) (wipeV vs η)) H2 := w
            rw [drop_cons hd] at w
            exact fill_turn (scope := scope) qg qt qe (z.gr e) (hη.gr (e.hid Z)) hD hf rd (wipe_wipe σ _) w fun H3 w3 => w3
          · intro H2 w
            have w : Fills S n H' Z Dl fin (compL b ft fe (ds.drop xs.length) (wipeV vs η)) H2 := w
            rw [RpA.length r2, List.drop_length] at w
            exact fill_end hD (z.gr e) hp w
      | _ => exact False.elim h
/-- over a range just named -/
theorem range_core {n : Nat} {scope : Scope} {b : D → Vw → Option Vw} {ft : Vw → Rv Bool} {fe : Vw → Rv D} {g : TG} {tt : TT} {te : TE} {vs : List Nat} {η : Vw} {σ : L2.St} {H : Hp} {Z : Addr → Prop} {Q : VK} {lo hi : Int}
    (qg : ∀ d v η η' σ H Hv Q, Gr Hv H → Vok S.c Hv η σ → Rp S.c Hv v d → b d η = some η' → (∀ σ', Vok S.c Hv η' σ' → L2.wipe σ' vs = L2.wipe σ vs → Q σ' H) → g v σ H Q)
    (qt : Tells (S.blk scope) RT tt ft) (qe : TellsX (S.blk scope) n te fe) (z : In Z H) (hη : Vok S.c (hid H Z) η σ)
    (h : PostFX S n σ Z H Q (if (rangeD lo hi).length ≤ 16000000 then compL b ft fe (rangeD lo hi) (wipeV vs η) else .un)) :
    ∀ Dl, H Dl = none → ∃ W : Nat → Nat → Hp → Prop, (∃ m, W 0 m (upd H Dl (.lst []))) ∧ ∀ i m H, W i m H →
      ((Itr lo (hi - lo).toNat).stop i H ∧ Q (.ref Dl) H) ∨ ((Itr lo (hi - lo).toNat).go i H ∧ ∃ Nx : Hp → Prop, (∀ H', Nx H' → ∃ m', m' < m ∧ W (i + 1) m' H') ∧ ∀ x H', (Itr lo (hi - lo).toNat).yld i H x H' → g x (L2.wipe σ vs) H' fun σ2 H2 => L2.wipe σ2 vs = L2.wipe σ vs ∧ tt σ2 H2 fun b H3 =>
        if b = true then te σ2 H3 fun y H4 => ∃ acc, H4 Dl = some (.lst acc) ∧ acc.length < sizeLine ∧ Nx (upd H4 Dl (.lst (acc ++ [y]))) else Nx H3) := by
  intro Dl hD
  split at h
  · rename_i hl
    cases ec : compL b ft fe (rangeD lo hi) (wipeV vs η) with
    | un => rw [ec] at h; exact False.elim h
    | xc x => exact absurd ec (compL_nox _ _ _)
    | ok fin =>
      rw [ec] at h
      have hf := Nat.le_trans (compL_len ec) hl
      refine lc_range (lo := lo) (n := (hi - lo).toNat) (fun i H2 => Fills S n H Z Dl fin (compL b ft fe ((rangeD lo hi).drop i) (wipeV vs η)) H2) (fill_start hD ec) ?_ ?_
      · intro i H2 hx w
        have w : Fills S n H Z Dl fin (compL b ft fe ((rangeD lo hi).drop i) (wipeV vs η)) H2 := w
        rw [drop_cons (rangeD_get hx)] at w
        exact fill_turn (scope := scope) qg qt qe z hη hD hf (.int _) (wipe_wipe σ _) w fun H3 w3 => w3
      · intro H2 w
        have w : Fills S n H Z Dl fin (compL b ft fe ((rangeD lo hi).drop (hi - lo).toNat) (wipeV vs η)) H2 := w
        rw [← rangeD_len, List.drop_length] at w
        exact fill_end hD z h w
  · exact False.elim h
def srcR (rg : List D → Rv (List D)) (f : Vw → Rv (List D)) (η : Vw) : Rv (List D) := (f η).bind rg
theorem sc_range1 {n : Nat} {elt tg a : Expr} {ifs : List Expr} {scope : Scope} {b : D → Vw → Option Vw} {ft : Vw → Rv Bool} {fe : Vw → Rv D} {f : Vw → Rv (List D)} {p pos : Pos} (own : List (Str × Nat)) (vs : List Nat) (hm : S.mg "range" = none) (hi : SemA S [a] f) (hb : blkC S.N S.sc scope own = true) (hg : SemTv (S.blk scope) tg vs b)
    (ht : SemP (S.blk scope) ifs ft) (he : SemX (S.blk scope) n elt fe) (hv : own.map (·.2) = vs := by rfl) (hgl : S.sc.names.lookup ("range" : Str) = some .globalImplicit := by rfl) (hst : ∀ env, starEach [a] env = [(false, eval a env)] := by intro _; rfl) :
    SemC S n elt tg (.Call (.Name "range" p) [a] [] pos) ifs scope (cmp vs b ft fe (srcR rng1 f)) := by
  obtain ⟨ti, pi, qi⟩ := hi.ex
  obtain ⟨g, pg, qg⟩ := hg.ex
  obtain ⟨tt, pt, qt⟩ := ht.ex
  obtain ⟨te, pe, qe⟩ := he.ex
  refine ⟨⟨iRng1 ti, g, tt, te, own, fun X hX => pi_range1 (by show X.env.scope.names.lookup ("range" : Str) = _; rw [hX.hsc]; exact hgl) (by rw [hX.hmg]; exact hm) (pi X hX) (hst _), fun X hX => blkOk_by (by rw [hX.hN, hX.hsc]; exact hb), pg, pt, pe, hv.symm ▸ (fun η σ H Z Q z hη h => ?_)⟩⟩
  unfold cmp srcR at h
  refine qi η σ H Z _ z hη ?_
  cases ef : f η with
  | un => rw [ef] at h; exact False.elim h
  | xc x => rw [ef] at h; exact h
  | ok ds =>
    rw [ef] at h
    intro vs H' e r
    cases r with
    | nil => exact False.elim h
    | cons r1 r2 =>
      cases r2 with
      | cons _ _ => cases r1 <;> exact False.elim h
      | nil =>
        cases r1 with
        | int n =>
          simp only [Rv.bind_ok, rng1_i] at h
          by_cases hn : rngOk n = true
          · rw [if_pos hn] at h
            have hn := of_decide_eq_true hn
            refine ⟨n, rfl, hn.1, hn.2, ?_⟩
            have := range_core (S := S) (scope := scope) (lo := 0) (hi := n) qg qt qe (z.gr e) (hη.gr (e.hid Z)) (Q := Q) (h.gr e)
            rw [Int.sub_zero] at this
            exact this
          · rw [if_neg hn] at h
            exact False.elim h
        | _ => exact False.elim h
theorem sc_range2 {n : Nat} {elt tg a a2 : Expr} {ifs : List Expr} {scope : Scope} {b : D → Vw → Option Vw} {ft : Vw → Rv Bool} {fe : Vw → Rv D} {f : Vw → Rv (List D)} {p pos : Pos} (own : List (Str × Nat)) (vs : List Nat) (hm : S.mg "range" = none) (hi : SemA S [a, a2] f) (hb : blkC S.N S.sc scope own = true) (hg : SemTv (S.blk scope) tg vs b)
    (ht : SemP (S.blk scope) ifs ft) (he : SemX (S.blk scope) n elt fe) (hv : own.map (·.2) = vs := by rfl) (hgl : S.sc.names.lookup ("range" : Str) = some .globalImplicit := by rfl) (hst : ∀ env, starEach [a, a2] env = [(false, eval a env), (false, eval a2 env)] := by intro _; rfl) (hst2 : ∀ env, starEach [a2] env = [(false, eval a2 env)] := by intro _; rfl) :
    SemC S n elt tg (.Call (.Name "range" p) [a, a2] [] pos) ifs scope (cmp vs b ft fe (srcR rng2 f)) := by
  obtain ⟨ti, pi, qi⟩ := hi.ex
  obtain ⟨g, pg, qg⟩ := hg.ex
  obtain ⟨tt, pt, qt⟩ := ht.ex
  obtain ⟨te, pe, qe⟩ := he.ex
  refine ⟨⟨iRng2 ti, g, tt, te, own, fun X hX => pi_range2 (by show X.env.scope.names.lookup ("range" : Str) = _; rw [hX.hsc]; exact hgl) (by rw [hX.hmg]; exact hm) (pi X hX) (hst _) (hst2 _), fun X hX => blkOk_by (by rw [hX.hN, hX.hsc]; exact hb), pg, pt, pe, hv.symm ▸ (fun η σ H Z Q z hη h => ?_)⟩⟩
  unfold cmp srcR at h
  refine qi η σ H Z _ z hη ?_
  cases ef : f η with
  | un => rw [ef] at h; exact False.elim h
  | xc x => rw [ef] at h; exact h
  | ok ds =>
    rw [ef] at h
    intro vs H' e r
    cases r with
    | nil => exact False.elim h
    | cons r1 r2 =>
      cases r2 with
      | nil => cases r1 <;> exact False.elim h
      | cons r2 r3 =>
        cases r3 with
        | cons _ _ => cases r1 <;> cases r2 <;> exact False.elim h
        | nil =>
          cases r1 with
          | int a =>
            cases r2 with
            | int n =>
              simp only [Rv.bind_ok, rng2_i] at h
              by_cases hn : rngOk a = true ∧ rngOk n = true
              · rw [if_pos hn] at h
                have h1 := of_decide_eq_true hn.1
                have h2 := of_decide_eq_true hn.2
                exact ⟨a, n, rfl, ⟨h1.1, h1.2, h2.1, h2.2⟩, range_core (S := S) (scope := scope) qg qt qe (z.gr e) (hη.gr (e.hid Z)) (Q := Q) (h.gr e)⟩
              · rw [if_neg hn] at h
                exact False.elim h
            | _ => exact False.elim h
          | _ => exact False.elim h
/-- as a value -/
theorem TellsFX.f {t : TE} {f : Vw → Rv (List D)} (h : TellsFX S 0 t f) : TellsF S t f := by
  intro η σ H Z Q z hη hq
  refine h η σ H Z Q z hη ?_
  cases e : f η with
  | un => rw [e] at hq; exact hq
  | xc x => rw [e] at hq; exact hq
  | ok ds =>
    rw [e] at hq
    exact fun p vs H' U e1 hU t hp => hq (p, vs) H' e1 (TreeA.rp ((Gr.refl H').hid2 fun a h => .inl h) (fun a ha => hid_no fun q => z a q (hU a ha)) t) hp
theorem SemC.run {n : Nat} {elt tg iter : Expr} {ifs : List Expr} {scope : Scope} {pos : Pos} {f : Vw → Rv (List D)} (h : SemC S n elt tg iter ifs scope f) (hs : ∀ env x, foldedSetIterable iter env x = pure x := by intro _ _; rfl) :
    ∃ t, (∀ X, S.At X → PE X (.ListComp elt [⟨tg, iter, ifs, 0⟩] scope pos) t) ∧ TellsFX S n t f := by
  obtain ⟨wi, g, tt, te, own, h1, h2, h3, h4, h5, h6⟩ := h.ex
  exact ⟨_, fun X hX => pe_lc hX.calm hX.nd (h1 X hX) (h2 X hX) (fun s H C cl fp => h3 _ (hX.blk scope s H C cl fp)) (fun s H C cl fp => h4 _ (hX.blk scope s H C cl fp)) (fun s H C cl fp => h5 _ (hX.blk scope s H C cl fp)) (hs _), h6⟩
theorem SemC.f {elt tg iter : Expr} {ifs : List Expr} {scope : Scope} {pos : Pos} {f : Vw → Rv (List D)} (h : SemC S 0 elt tg iter ifs scope f) (hs : ∀ env x, foldedSetIterable iter env x = pure x := by intro _ _; rfl) : SemF S (.ListComp elt [⟨tg, iter, ifs, 0⟩] scope pos) f :=
  let ⟨t, p, q⟩ := h.run hs; ⟨⟨t, p, q.f⟩⟩
theorem SemC.x {n : Nat} {elt tg iter : Expr} {ifs : List Expr} {scope : Scope} {pos : Pos} {f : Vw → Rv (List D)} (h : SemC S n elt tg iter ifs scope f) (hs : ∀ env x, foldedSetIterable iter env x = pure x := by intro _ _; rfl) : SemX S (n + 1) (.ListComp elt [⟨tg, iter, ifs, 0⟩] scope pos) (lstD f) := by
  obtain ⟨t, p, q⟩ := h.run (pos := pos) hs
  refine ⟨⟨t, p, fun η σ H Z Q z hη h => q η σ H Z Q z hη ?_⟩⟩
  unfold lstD at h
  cases e : f η with
  | un => rw [e] at h; exact h
  | xc x => rw [e] at h; exact h
  | ok ds =>
    rw [e] at h
    exact fun p vs H' U e1 hU t hp => PostX.newL h e1 hU t hp
/-- x = [..] on one row -/
def asgC (i n : Nat) (M : List Nat) (f : Vw → Rv (List D)) (ρ : Env') : Res := (f (vw M ρ)).st fun ds => if i < ρ.length then .nx (if immA ds = true then ρ.set i (.ow (n + 1) (.list ds)) else (frz M ρ).set i (.ow (n + 1) (.list ds))) else .un
theorem ss_setC {i n : Nat} {y : Str} {py : Pos} {elt tg iter : Expr} {ifs : List Expr} {scope : Scope} {pos spos : Pos} {f : Vw → Rv (List D)} (M : List Nat) (h : SemC S n elt tg iter ifs scope f) (hy : S.N[i]? = some y := by rfl) (hyl : S.sc.names.lookup y = some .local := by rfl) (hkd : S.sc.kind = .function := by rfl)
    (hl : (py.line == pos.line) = true := by rfl) (ha : (scope.names.any fun (n, k) => n == y && (k == .local || k == .cell)) = false := by decide +kernel) (hs : ∀ env x, foldedSetIterable iter env x = pure x := by intro _ _; rfl) :
    SemS S (.Assign [.Name y py] (.ListComp elt [⟨tg, iter, ifs, 0⟩] scope pos) spos) (asgC i n M f) := by
  obtain ⟨wi, g, tt, te, own, h1, h2, h3, h4, h5, h6⟩ := h.ex
  refine ⟨⟨_, fun X hX => ps_setLc (i := i) hX.calm hX.nd (by rw [hX.hN]; exact hy) (by rw [hX.hsc]; exact hyl) (sw_true (by rw [hX.hsc]; exact hkd) (by rw [hX.hsc]; exact hyl) hl ha) (h1 X hX) (h2 X hX) (fun s H C cl fp => h3 _ (hX.blk scope s H C cl fp)) (fun s H C cl fp => h4 _ (hX.blk scope s H C cl fp)) (fun s H C cl fp => h5 _ (hX.blk scope s H C cl fp)) (hs _), fun ρ F H0 Z σ H Dn ⟨o, k⟩ h => ?_⟩⟩
  refine h6 (vw M ρ) σ H (hz Z ρ o M) _ k.hin k.view ?_
  unfold asgC at h
  cases ef : f (vw M ρ) with
  | un => rw [ef] at h; exact h
  | xc x => rw [ef] at h; exact fun cls dx H' e q => h cls dx σ H' (k.gr.trans e) (k.out e) (q.gr ((Gr.refl H').hid2 fun a z => .inl z))
  | ok ds =>
    rw [ef] at h
    intro p vs H' U e1 hU t hp
    simp only [Rv.st_ok] at h
    split at h
    · rename_i hl
      have np : ∀ a ∈ U, a ≠ p := fun a ha q => by
        obtain ⟨xs, w, _⟩ := TreeA.lists t a ha
        rw [q, hp] at w
        cases w
      by_cases hm : immA ds = true
      · rw [if_pos hm] at h
        -- what can't change needs no tree
        have r := TreeA.rp (Hv' := hid H' (hz Z ρ o M)) ((Gr.refl H').hid2 fun a h => .inl h) (fun a ha => hid_no fun q => k.hin a q (hU a ha)) t
        have k' := k.grow e1
        have r0 := k'.immA hm r
        refine h _ _ ⟨_, k'.layT (U := [p]) (Gr.new hp) (fun a ha => by rw [List.mem_singleton.mp ha]; exact hp) hl fun Hv eh => ?_⟩
        have e2 : Gr (hid H' (hz Z ρ o [])) Hv := Gr.trans (fun a u h => by
          obtain ⟨h1, h2⟩ := hid_some h
          have na : a ≠ p := ne_of_none h2 hp
          rw [hid_no (fun z => z.elim h1 fun z => na (List.mem_singleton.mp z)), upd_ne na]
          exact h2) eh
        exact .lst upd_same (TreeA.imms (Hv := Hv) (H' := H') hm (RpA.gr e2 r0)) (by simp)
      · rw [if_neg hm] at h
        refine h _ _ ⟨_, (k.freeze M).layT (U := p :: U) (e1.trans (Gr.new hp)) (fun a ha => (List.mem_cons.mp ha).elim (fun q => by rw [q]; exact e1.free hp) (hU a)) (by rw [frz_length]; exact hl) fun Hv eh => ?_⟩
        refine .lst upd_same (TreeA.gr (Gr.trans (fun a u q => ?_) eh) (fun a ha => upd_ne (np a ha)) t) fun q => np p q rfl
        obtain ⟨q1, q2⟩ := hid_some q
        have na : a ≠ p := ne_of_none q2 hp
        rw [hid_no (fun y => ?_), upd_ne na]
        · exact q2
        rcases y with y | y
        · exact q1 (.inl ((hz_frz a).mp y))
        · exact (List.mem_cons.mp y).elim na fun y => q1 (.inr y)
    · exact False.elim h
end
end Bv

set_option maxHeartbeats 4000000
namespace Bv
open PySem PySem.Spec L2 PyProof.Rows
open PySem.AutoSeq1 (wpAny_loadPart')
open PySem.MeetsSeq PySem.MeetsSeq2 PySem.MeetsSeq3
/-! ### * -/
theorem tup_mulS (l : Addr) (items : Array Value) (n : Nat) (dd : Option Addr) (sl : Array (Option Value)) (x : Int) (u : Tok) (c0 : (decide (x < -(2 ^ 63)) || decide (x ≥ 2 ^ 63)) = false) (c1 : (items.isEmpty || x == 1) = true) :
    Meets (Builtin.«tuple.__mul__» ⟨[.ref l, .int x u], []⟩) (fun _ R s => s.heap.get? l = some { cls := .type "tuple", dict := dd, data := .seq items n, slots := sl } ∧ R (.ok (.ret (Value.ref l))) s) :=
  .of_wp fun prog w A R s h => by
    obtain ⟨hp, g, d, tk, os⟩ := s
    obtain ⟨hl, h⟩ := h
    have f1 := AutoSeq1.idx_int
    wp_walk using wpAny_loadPart' hl
    repeat (first
      | (refine wpAny_ite_false (decide_eq_false (by rw [c0]; exact Bool.false_ne_true)) ?_; wp_walk using wpAny_loadPart' hl)
      | (refine wpAny_ite_true (decide_eq_true c1) ?_; wp_walk using wpAny_loadPart' hl))
    exact ⟨_, rfl, h⟩
theorem tup_mul0 (l : Addr) (items : Array Value) (n : Nat) (dd : Option Addr) (sl : Array (Option Value)) (x : Int) (u : Tok) (c0 : (decide (x < -(2 ^ 63)) || decide (x ≥ 2 ^ 63)) = false) (c1 : (items.isEmpty || x == 1) = false) (c2 : (decide (x ≤ 0) || items.isEmpty) = true) :
    Meets (Builtin.«tuple.__mul__» ⟨[.ref l, .int x u], []⟩) (fun _ R s => s.heap.get? l = some { cls := .type "tuple", dict := dd, data := .seq items n, slots := sl } ∧ R (.ok (.ret (Value.ref s.heap.objs.size))) { s with heap := s.heap.push { cls := Value.type "tuple", data := Data.seq #[] }, toks := s.toks }) :=
  .of_wp fun prog w A R s h => by
    obtain ⟨hp, g, d, tk, os⟩ := s
    obtain ⟨hl, h⟩ := h
    have f1 := AutoSeq1.idx_int
    wp_walk using wpAny_loadPart' hl
    repeat (first
      | (refine wpAny_ite_false (decide_eq_false (by rw [c0]; exact Bool.false_ne_true)) ?_; wp_walk using wpAny_loadPart' hl)
      | (refine wpAny_ite_false (decide_eq_false (by rw [c1]; exact Bool.false_ne_true)) ?_; wp_walk using wpAny_loadPart' hl)
      | (refine wpAny_ite_true (decide_eq_true c2) ?_; wp_walk using wpAny_loadPart' hl))
    exact ⟨_, rfl, h⟩

section
variable {X : Cx} {S : Sx}
def rRepA (K : PySem.W.Frag) : R2 := fun x y H Q => ∃ l k xs, x = .ref l ∧ y = .int k ∧ SqT K H l xs ∧ -1000 ≤ k ∧ k ≤ 1000 ∧ xs.length ≤ 1000 ∧ ((xs = [] ∨ k = 1) → Q (.ref l) H) ∧
  (xs ≠ [] → k ≠ 1 → ∀ p, H p = none → Q (.ref p) (upd H p (.tup (List.replicate k.toNat xs).flatten)))
theorem op_repA : OpR X (binaryOp .Mult) (rRepA X.K) := by
  intro pins s σ H x y v u Q I rx ry h
  obtain ⟨l, k, xs, rfl, rfl, hT, h0, h1, hz, q1, q2⟩ := h
  by_cases hbig : xs ≠ [] ∧ 2 ≤ k
  · exact op_repT pins s σ H _ _ v u Q I rx ry ⟨l, k, xs, rfl, rfl, hT, hbig.1, hbig.2, h1, hz, q2 hbig.1 (by omega)⟩
  · cases rx
    obtain ⟨t, rfl⟩ := ry
    obtain ⟨its, r, ⟨⟨cls, dd, data, sl⟩, ho, hc, n, hd⟩, hs⟩ := I.tuple hT
    simp only at hc hd
    subst hc hd
    have c0 : (decide (k < -(2 ^ 63)) || decide (k ≥ 2 ^ 63)) = false := by
      rw [Bool.or_eq_false_iff]
      exact ⟨decide_eq_false (by omega), decide_eq_false (by omega)⟩
    have emp : its.toArray.isEmpty = xs.isEmpty := by cases r <;> rfl
    by_cases hsame : xs = [] ∨ k = 1
    · have c1 : (its.toArray.isEmpty || k == 1) = true := by
        rw [emp, Bool.or_eq_true]
        exact hsame.imp (fun z => by rw [z]; rfl) fun z => by rw [z]; rfl
      exact wpAny_binaryOp_repeat_ref (T := "tuple") (U := "int") (by decide) ⟨_, ho, rfl⟩ (fun s' => typeIs_int s' k t) noFill_tuple_mul F.fills_int_mul F.slot_int_rmul repeat_tuple F.slot_int_index.lookup
        (call_meets F.slot_int_rmul (typeIs_int s k t) F.entry_int_rmul (F.args_int_rmul_2 _ _) (int_rmul_tuple k t l its.toArray n dd sl)
          ⟨ho, rfl, ⟨_, ho, rfl⟩, call_meets F.slot_tuple_mul ⟨_, ho, rfl⟩ F.entry_tuple_mul (F.args_tuple_mul_2 _ _) (tup_mulS l its.toArray n dd sl k t c0 c1) ⟨ho, ⟨.ref l, H, I, rfl, q1 hsame⟩⟩⟩)
    · rw [not_or] at hsame
      have hk : k ≤ 0 := by
        have : ¬ 2 ≤ k := fun z => hbig ⟨hsame.1, z⟩
        omega
      have e1 : xs.isEmpty = false := by cases xs with | nil => exact absurd rfl hsame.1 | cons a b => rfl
      have c1 : (its.toArray.isEmpty || k == 1) = false := by
        rw [emp, e1, Bool.false_or]
        exact beq_eq_false_iff_ne.mpr hsame.2
      have c2 : (decide (k ≤ 0) || its.toArray.isEmpty) = true := by
        rw [decide_eq_true hk]; rfl
      have e2 : (List.replicate k.toNat xs).flatten = [] := by
        rw [show k.toNat = 0 by omega]; rfl
      refine wpAny_binaryOp_repeat_ref (T := "tuple") (U := "int") (by decide) ⟨_, ho, rfl⟩ (fun s' => typeIs_int s' k t) noFill_tuple_mul F.fills_int_mul F.slot_int_rmul repeat_tuple F.slot_int_index.lookup
        (call_meets F.slot_int_rmul (typeIs_int s k t) F.entry_int_rmul (F.args_int_rmul_2 _ _) (int_rmul_tuple k t l its.toArray n dd sl)
          ⟨ho, rfl, ⟨_, ho, rfl⟩, call_meets F.slot_tuple_mul ⟨_, ho, rfl⟩ F.entry_tuple_mul (F.args_tuple_mul_2 _ _) (tup_mul0 l its.toArray n dd sl k t c0 c1 c2) ⟨ho, ?_⟩⟩)
      have q3 := q2 hsame.1 hsame.2 s.heap.objs.size (I.hok.fresh (Nat.le_refl _))
      rw [e2] at q3
      refine ⟨.ref s.heap.objs.size, _, I.laid (t' := s.toks) (o := .tup []) (fun b ob q => Heap.get?_push_of_some _ q) (Nat.le_refl _) ?_, rfl, q3⟩
      exact ⟨Nat.zero_le _, [], .nil, IsTup.new _ _⟩
/-- a list times a whole number, however it is read -/
def rRepR (K : PySem.W.Frag) : R2 := fun x y H Q => ∃ l k xs, x = .ref l ∧ y = .int k ∧ RdL K H l xs ∧ -(2 ^ 63) ≤ k ∧ k < 2 ^ 63 ∧ xs.length * k.toNat ≤ sizeLine ∧ ∀ p, H p = none → Q (.ref p) (upd H p (.lst (List.replicate k.toNat xs).flatten))
theorem op_repR : OpR X (binaryOp .Mult) (rRepR X.K) := by
  intro pins s σ H x y v u Q I rx ry h
  obtain ⟨l, k, xs, rfl, rfl, hH, h1, h2, hz, q⟩ := h
  cases rx
  obtain ⟨t, rfl⟩ := ry
  obtain ⟨its, n, r, e, hsz⟩ := RdL.lst_at I hH
  have hlen : its.toArray.size * k.toNat ≤ sizeLine := by rw [List.size_toArray, ← r.length]; exact hz
  have hcap : ¬ its.toArray.size * k.toNat > (2 ^ 63 - 1) / 8 := by
    have hline : (sizeLine : Nat) ≤ (2 ^ 63 - 1) / 8 := by decide
    omega
  have fold : ∀ m : Nat, List.foldl (fun x1 x2 => x1 ++ x2) #[] (List.replicate m its.toArray) = (List.replicate m its).flatten.toArray := fun m => by
    have w := foldl_rep its m []
    rwa [List.nil_append] at w
  have made : List.foldl (fun x1 x2 => x1 ++ x2) #[] (List.replicate (if its.toArray.isEmpty = true then 0 else k.toNat) its.toArray) = (List.replicate k.toNat its).flatten.toArray := by
    rw [fold]
    cases its with
    | nil => simp
    | cons a b => rw [if_neg (by simp)]
  refine wpAny_binaryOp_repeat_ref (T := "list") (U := "int") (by decide) ⟨_, e, rfl⟩ (fun s' => typeIs_int s' k t) noFill_list_mul F.fills_int_mul F.slot_int_rmul repeat_list F.slot_int_index.lookup
    (call_meets F.slot_int_rmul (typeIs_int s k t) F.entry_int_rmul (F.args_int_rmul_2 _ _) (int___rmul___int_list k t l its.toArray n)
      ⟨e, rfl, ⟨_, e, rfl⟩, call_meets F.slot_list_mul ⟨_, e, rfl⟩ F.entry_list_mul (F.args_list_mul_2 _ _)
        (AutoListH.list___mul___list_int_3 l its.toArray n k t (by rw [fitsIndex_both h1 h2]; exact Bool.false_ne_true) hcap (by rw [notLongL hlen]; exact Bool.false_ne_true)) ⟨e, ?_⟩⟩)
  rw [made]
  have fl : (List.replicate k.toNat xs).flatten.length ≤ sizeLine := by rw [PyProof.Rows.lm_len_rep_flat, Nat.mul_comm]; exact hz
  exact ⟨.ref _, _, I.laid (t' := s.toks) (o := .lst (List.replicate k.toNat xs).flatten) (fun b ob w => Heap.get?_push_of_some _ w) (Nat.le_refl _) ⟨fl, _, 0, r.rep k.toNat, Heap.get?_push_size _ rfl⟩, rfl, q _ (I.hok.fresh (Nat.le_refl _))⟩
def mulOk (i j : Int) : Bool := decide ((-(2 ^ 64) < i ∧ i < 2 ^ 64) ∨ (-(2 ^ 64) < j ∧ j < 2 ^ 64))
def dMul : D → D → Rv D
  | .int i, .int j => if mulOk i j = true then .ok (.int (i * j)) else .un
  | .tuple xs, .int k => if -1000 ≤ k ∧ k ≤ 1000 ∧ xs.length ≤ 1000 then .ok (.tuple (List.replicate k.toNat xs).flatten) else .un
  | .list xs, .int k => if -1000 ≤ k ∧ k ≤ 1000 ∧ xs.length ≤ 1000 then .ok (.list (List.replicate k.toNat xs).flatten) else .un
  | _, _ => .un
theorem dMul_ii (i j : Int) : dMul (.int i) (.int j) = if mulOk i j = true then .ok (.int (i * j)) else .un := rfl
theorem dMul_t (xs : List D) (k : Int) : dMul (.tuple xs) (.int k) = if -1000 ≤ k ∧ k ≤ 1000 ∧ xs.length ≤ 1000 then .ok (.tuple (List.replicate k.toNat xs).flatten) else .un := rfl
theorem dMul_l (xs : List D) (k : Int) : dMul (.list xs) (.int k) = if -1000 ≤ k ∧ k ≤ 1000 ∧ xs.length ≤ 1000 then .ok (.list (List.replicate k.toNat xs).flatten) else .un := rfl
def rMulAll (K : PySem.W.Frag) : R2 := fun x y H Q => rI CMul (fun i j => .int (i * j)) x y H Q ∨ rRepA K x y H Q ∨ rRepR K x y H Q
theorem op_mulAll : OpR X (binaryOp .Mult) (rMulAll X.K) := op_mul.or (op_repA.or op_repR)
theorem o2_mul : Op2 S (rMulAll S.K) dMul := by
  intro x y a b H Z Q σ z ra rb h
  cases rb with
  | int k =>
    cases ra with
    | int i =>
      rw [dMul_ii] at h
      split at h
      · rename_i hc
        exact .inl ⟨i, k, rfl, rfl, (of_decide_eq_true hc : (-(2 ^ 64) < i ∧ i < 2 ^ 64) ∨ (-(2 ^ 64) < k ∧ k < 2 ^ 64)), Post.ok (R := RE S) h (.int _)⟩
      · exact False.elim h
    | tup h1 r1 =>
      rw [dMul_t] at h
      split at h
      · rename_i hc
        have hl := RpA.length r1
        refine .inr (.inl ⟨_, k, _, rfl, rfl, (Gr.hid_le H Z).sqT h1, hc.1, hc.2.1, by omega, fun hs => ?_, fun _ _ p hp => Post.newT z h (RpA.rep r1 _) hp⟩)
        refine Post.ok (R := RE S) h ?_
        have e : ∀ ds : List D, (ds = [] ∨ k = 1) → (List.replicate k.toNat ds).flatten = ds := by
          intro ds hh
          rcases hh with rfl | rfl
          · simp
          · simp
        rw [e _ (hs.imp (fun q => by subst q; exact List.eq_nil_of_length_eq_zero (by simpa using hl.symm)) id)]
        exact .tup h1 r1
      · exact False.elim h
    | lst h1 r1 =>
      rw [dMul_l] at h
      split at h
      · rename_i hc
        have hl := RpA.length r1
        refine .inr (.inr ⟨_, k, _, rfl, rfl, (Gr.hid_le H Z).rdl h1, by omega, by omega, ?_, fun p hp => Post.newL z h (RpA.rep r1 _) hp⟩)
        rw [hl]
        exact line_ge (Nat.le_trans (Nat.mul_le_mul hc.2.2 (show k.toNat ≤ 1000 by omega)) (by decide))
      · exact False.elim h
    | _ => exact False.elim h
  | _ => cases a <;> exact False.elim h
theorem se_mul {a b : Expr} {fa fb : Vw → Rv D} {pos : Pos} (ha : SemE S a fa) (hb : SemE S b fb) : SemE S (.BinOp a .Mult b pos) (bi2 dMul fa fb) := se_op (fun X hX => hX.hK ▸ op_mulAll) o2_mul ha hb

/-! ### max, min of two (no error is handled around) -/
theorem se_max {e e2 : Expr} {fa : Vw → Rv (List D)} {p pos : Pos} (hm : S.mg "max" = none) (ha : SemA S [e, e2] fa) (hg : S.sc.names.lookup ("max" : Str) = some .globalImplicit := by rfl) (he : ∀ env, starEach [e, e2] env = (false, eval e env) :: starEach [e2] env := by intro _; rfl)
    (hpl : ∀ env, (backTo pos (starEach [e2] env)).any (·.1) = false := by intro _; rfl) : SemE S (.Call (.Name "max" p) [e, e2] [] pos) (cal dMax fa) :=
  se_callB (fun X hX => call_max2 hX.calm) on_max hm (by decide +kernel) ha hg (by decide) (by decide) he hpl
theorem se_min {e e2 : Expr} {fa : Vw → Rv (List D)} {p pos : Pos} (hm : S.mg "min" = none) (ha : SemA S [e, e2] fa) (hg : S.sc.names.lookup ("min" : Str) = some .globalImplicit := by rfl) (he : ∀ env, starEach [e, e2] env = (false, eval e env) :: starEach [e2] env := by intro _; rfl)
    (hpl : ∀ env, (backTo pos (starEach [e2] env)).any (·.1) = false := by intro _; rfl) : SemE S (.Call (.Name "min" p) [e, e2] [] pos) (cal dMin fa) :=
  se_callB (fun X hX => call_min2 hX.calm) on_min hm (by decide +kernel) ha hg (by decide) (by decide) he hpl

/-! ### isinstance(x, T), T a built-in class by its name -/
def tyD : D → String
  | .none => "NoneType"
  | .bool _ => "bool"
  | .int _ => "int"
  | .str _ => "str"
  | .list _ => "list"
  | .tuple _ => "tuple"
  | .dict _ => "dict"
def isiD (T : String) (d : D) : Rv D := match d with
  | .dict _ => .un
  | d => match kitB (tyD d) T with | some b => .ok (.bool b) | none => .un
def isi (T : String) (f : Vw → Rv D) (η : Vw) : Rv D := (f η).bind (isiD T)
theorem Rp.tyX {c : Cz} {H : Hp} {v : V} {d : D} (r : Rp c H v d) (hd : ∀ ds, d ≠ .dict ds) : TyX c.K H v (.type (tyD d)) := by
  cases r with
  | non => exact .base .non
  | bl b => exact .base (.bl b)
  | int i => exact .base (.int i)
  | str i => exact .base (.str i)
  | lst h1 h2 =>
    rcases h1 with (h1 | ⟨o, h1⟩) | ⟨its, n, h1, _, _⟩
    · exact .base (.lst h1)
    · exact .base (.frz h1)
    · exact .kList h1 rfl
  | tup h1 h2 =>
    rcases h1 with (h1 | ⟨o, h1⟩) | ⟨o, its, n, h1, h2, _⟩
    · exact .base (.tup h1)
    · exact .fTuple h1
    · exact .kTuple h1 h2
  | dctK h1 h2 => exact absurd rfl (hd _)
  | dctN h1 h2 h3 => exact absurd rfl (hd _)
  | exc0 h1 h2 => exact absurd rfl (hd _)
  | exc1 h1 h2 h3 h4 => exact absurd rfl (hd _)
theorem se_isi {T : String} {x : Str} {e : Expr} {f : Vw → Rv D} {p1 p2 pos : Pos} (hm : S.mg "isinstance" = none) (hT : S.mg x = none) (hv : bootBuiltins x = some (.type T)) (ha : SemE S e f) (hx : x ≠ "__name__" := by decide) (hg : S.sc.names.lookup ("isinstance" : Str) = some .globalImplicit := by rfl)
    (hgx : S.sc.names.lookup x = some .globalImplicit := by rfl) (hxd : (x == ("__debug__" : Str)) = false := by decide) (hs : ∀ env, starEach [e, .Name x p2] env = (false, eval e env) :: starEach [.Name x p2] env := by intro _; rfl) (hs2 : ∀ env, starEach [.Name x p2] env = (false, eval (.Name x p2) env) :: starEach [] env := by intro _; rfl)
    (hpl : ∀ env, (backTo pos (starEach [.Name x p2] env)).any (·.1) = false := by intro _; rfl) : SemE S (.Call (.Name "isinstance" p1) [e, .Name x p2] [] pos) (isi T f) := by
  obtain ⟨t, pa, qa⟩ := ha.ex
  refine ⟨⟨tCB (rIsi S.K) (tCons t (tCons (tC (.ty T)) tNil)), fun X hX => ?_, fun η σ H Z Q z hη h => ?_⟩⟩
  · have hn : PE X (.Name x p2) (tC (.ty T)) := pe_bltn (by show X.env.scope.names.lookup x = _; rw [hX.hsc]; exact hgx) (by rw [hX.hmg]; exact hT) hv rfl hx hxd
    rw [← hX.hK]
    exact pe_callB call_isi (by show X.env.scope.names.lookup ("isinstance" : Str) = _; rw [hX.hsc]; exact hg) (by rw [hX.hmg]; exact hm) (by decide +kernel) (pa_cons (pa X hX) (pa_cons hn pa_nil (hs2 _)) (hs _)) (by decide) (by decide) (hs _) (hpl _)
  · refine qa η σ H Z _ z hη (Post.bind h fun d v H1 _ e1 r1 h1 => ?_)
    have hd : ∀ ds, d ≠ .dict ds := fun ds q => by subst q; exact False.elim h1
    have h2 : Post S (RE S) σ Z H1 Q (match kitB (tyD d) T with | some b => .ok (.bool b) | none => .un) := by
      cases d with
      | dict ds => exact absurd rfl (hd ds)
      | _ => exact h1
    cases ek : kitB (tyD d) T with
    | none => rw [ek] at h2; exact False.elim h2
    | some b =>
      rw [ek] at h2
      exact ⟨v, .ty T, .type (tyD d), .type T, b, rfl, .ty T, Rp.tyX (r1.gr (Gr.hid_le H1 Z)) hd, kit_ty ek, Post.ok (R := RE S) h2 (.bl b)⟩
end
end Bv

namespace Bv
open PySem PySem.Spec L2 PyProof.Rows

/-! ### enumerate over a list, a tuple -/
theorem meets_enum1 {v : Value} {o : Obj} {H : Heap → Prop} (B : Begins v o H) :
    Meets (Builtin.«enumerate.__new__» ⟨[.type "enumerate", v], []⟩) (fun _ R s => H s.heap ∧
      R (.ok (.ret (.ref (s.heap.push o).objs.size))) { s with heap := (s.heap.push o).push { cls := .type "enumerate", data := .fields #[.none, .bool false, .ref s.heap.objs.size, rawInt 0, .none, .none] } }) :=
  .of_wp fun prog w A R s h => by
    obtain ⟨hp, g, d, tk, os⟩ := s; obtain ⟨h1, h⟩ := h
    have hsub := sub_enumerate
    have q1 : ∀ {A' : Around} {E : Value → Shared → Prop} {Q : Value → Shared → Prop}, Q (.ref hp.objs.size) ⟨hp.push o, g, d, tk, os⟩ → wpAny (model prog w) A' (pyIter v) Q E ⟨hp, g, d, tk, os⟩ :=
      fun q => B.iter prog w _ _ ⟨hp, g, d, tk, os⟩ _ h1 q
    wp_walk using q1
    refine wpAny_stack_any fun st => wpAny_pure ?_
    split
    · rename_i c _ _ _ _ _
      cases (c == Value.type "enumerate")
      · wp_walk using q1
        exact ⟨_, rfl, h⟩
      · wp_walk using q1
        exact ⟨_, rfl, h⟩
    · wp_walk using q1
      exact ⟨_, rfl, h⟩
theorem call_enum1 {prog : Program} {w : World} {A : Around} {E : Value → Shared → Prop} {s : Shared} {v : Value} {o : Obj} {H : Heap → Prop} {Q : Value → Shared → Prop} (B : Begins v o H) (h1 : H s.heap)
    (h : ∀ h', IsEnum h' (s.heap.objs.size + 1) s.heap.objs.size 0 .none → h'.get? s.heap.objs.size = some o → h'.objs.size = s.heap.objs.size + 2 →
      (∀ b o, s.heap.get? b = some o → h'.get? b = some o) → Q (.ref (s.heap.objs.size + 1)) { s with heap := h' }) :
    wpAny (model prog w) A (call (.type "enumerate") [v]) Q E s := by
  refine callType_new F.called_enumerate (by decide) (F.typeCall_enumerate_1 _) (F.newCall_enumerate_1 _) (fun obj => F.args_object_init_2 obj _) F.entry_enumerate_new
    (meets_enum1 B) ⟨h1, ?_⟩
  have hz : (s.heap.push o).objs.size = s.heap.objs.size + 1 := Heap.size_push ..
  show _ ∧ _
  rw [hz]
  have he : IsEnum ((s.heap.push o).push { cls := .type "enumerate", data := .fields #[.none, .bool false, .ref s.heap.objs.size, rawInt 0, .none, .none] }) (s.heap.objs.size + 1) s.heap.objs.size 0 .none := by
    have := Heap.get?_push_size (s.heap.push o) (o := { cls := .type "enumerate", data := .fields #[.none, .bool false, .ref s.heap.objs.size, rawInt 0, .none, .none] }) rfl
    rw [hz] at this; exact this
  refine ⟨⟨_, he, rfl⟩, h _ he (Heap.get?_push_of_some _ (Heap.get?_push_size _ B.free)) (by rw [Heap.size_push, hz]) fun b o x => Heap.get?_push_of_some _ (Heap.get?_push_of_some _ x)⟩
/-- the tuple at a, each item in a new pair -/
def IteT (K : PySem.W.Frag) (a : Addr) : It :=
  ⟨fun i H => ∃ (xs : List V) (x : V), SqT K H a xs ∧ xs[i]? = some x, fun i H v H' => ∃ T x, v = .ref T ∧ H T = none ∧ H' = upd H T (.tup [.int (i : Nat), x]) ∧ ∀ xs, SqT K H a xs → xs[i]? = some x, fun i H => ∃ xs : List V, SqT K H a xs ∧ xs.length = i⟩
theorem turn_enumT {P : Program} {w : World} {K : PySem.W.Frag} {elts : List Expr} {kk : Nat} {tpos : Pos} (a e it : Addr) :
    Turn P w K (.Tuple elts kk tpos) (IteT K a) [e, it] e (fun i h => (∃ old, IsEnum h e it ((i : Nat) : Int) old) ∧ h.IsTupleIter it a i ∧ e ≠ it ∧ a ≠ it ∧ e ≠ a) where
  mem := by simp
  obj := fun i h st b hb => by
    obtain ⟨⟨old, he⟩, ⟨o, ho, hc, hd⟩, _⟩ := st
    have e' : b = e ∨ b = it := by simpa using hb
    rcases e' with z | z
    · rw [z]; exact ⟨_, he, fun v q => nomatch q⟩
    · rw [z]; exact ⟨o, ho, fun v q => by rw [hd] at q; cases q⟩
  keep := fun i h h' st k => let ⟨⟨old, he⟩, hi, hne⟩ := st; ⟨⟨old, k e (by simp) _ he⟩, hi.at fun o q => k it (by simp) o q, hne⟩
  item := by
    intro X hP hw hK hc i pins s σ H E I hf st hg
    subst hP hw hK
    obtain ⟨⟨old, he⟩, hit, hne, hna, hea⟩ := st
    obtain ⟨xs, x, hq, hx⟩ := hg
    obtain ⟨its, rv, p, hz⟩ := I.tuple hq
    obtain ⟨u, hu, ru⟩ := rv.get hx
    have hel : e < s.heap.objs.size := Heap.lt_size he
    have hil : it < s.heap.objs.size := by obtain ⟨_, q, _⟩ := hit; exact Heap.lt_size q
    have hlt : i < its.toArray.size := by
      have := (List.getElem?_eq_some_iff.mp hu).1
      simpa using this
    have D := Draws.tuple (prog := X.prog) (w := X.w) (A := X.A.in1) (I.ok.hd hc) it a hna its.toArray
    refine wpAny_pyNext_enum_itemD D he ⟨hit, p⟩ hlt hne (by simp [hne, hea]) fun x' h' tk hP ho hst' hT hsz hk => ?_
    have ex : x' = u := by
      have : its.toArray[i]? = some x' := hP
      rw [List.getElem?_toArray, hu] at this
      exact (Option.some.inj this).symm
    subst ex
    refine ⟨_, rfl, wpAny_letOwnedTupleGo_enum (s := { s with heap := h', toks := tk + 1 }) ho fun h'' he' sb => ?_⟩
    have hT2 : h''.get? s.heap.objs.size = some { cls := .type "tuple", data := .seq #[.int i tk, x'] } := (sb.2 _ (Nat.ne_of_gt hel)).trans hT
    have new : ObjOk X.prog X.w (upd H s.heap.objs.size (.tup [.int (i : Nat), x])) h'' s.heap.objs.size (.tup [.int (i : Nat), x]) :=
      ⟨by show 2 ≤ sizeLine; decide, [.int i tk, x'], .cons ⟨_, rfl⟩ (.cons ru .nil), ⟨_, hT2, rfl, _, rfl⟩⟩
    have I1 : Inv X pins σ (upd H s.heap.objs.size (.tup [.int (i : Nat), x])) { s with heap := h'', toks := tk + 1 } :=
      I.turnedNew (ch := [e, it]) (fun b ob hb q => (sb.2 b (fun z => hb (by simp [z]))).trans (hk b ob (fun z => hb (by simp [z])) (fun z => hb (by simp [z])) q)) hf (Nat.le_refl _) new
    refine ⟨.ref s.heap.objs.size, _, I1, rfl, ⟨_, x, rfl, I.hok.fresh (Nat.le_refl _), rfl, fun ys hy => by rw [I.tuple_inj hy hq]; exact hx⟩, ⟨⟨x', ?_⟩, hst'.1.at fun o q => (sb.2 it (Ne.symm hne)).trans q, hne, hna, hea⟩, fun b hb => ?_⟩
    · have e1 : ((i + 1 : Nat) : Int) = (i : Int) + 1 := by omega
      rw [e1]; exact he'
    · have hb' : b < s.heap.objs.size := by
        have e' : b = e ∨ b = it := by simpa using hb
        rcases e' with z | z
        · rw [z]; exact hel
        · rw [z]; exact hil
      rw [upd_ne (Nat.ne_of_lt hb')]
      exact (hf b hb).1
  done := by
    intro X hP hw hK hc i pins s σ H E I hf st hg
    subst hP hw hK
    obtain ⟨⟨old, he⟩, hit, hne, hna, hea⟩ := st
    obtain ⟨xs, hq, hx⟩ := hg
    obtain ⟨its, rv, p, hz⟩ := I.tuple hq
    obtain ⟨f0, f1, f2, f3, f4, f5⟩ := hf it (by simp)
    have hl : i = its.toArray.size := by rw [← hx, rv.length]; simp
    have D := Draws.tuple (prog := X.prog) (w := X.w) (A := X.A.in1) (I.ok.hd hc) it a hna its.toArray
    subst hl
    exact wpAny_pyNext_enum_endD D he ⟨hit, p⟩ fun h' eb => ⟨rfl, I.turned (t' := s.toks) (fun b o hb q => eb b o hb q) f0 f1 f3 f4 f5⟩
  self := fun A i s Q E st h => let ⟨⟨_, he⟩, _⟩ := st; wpAny_pyIter_enum he h
def iEnumT (K : PySem.W.Frag) (ta : TA) : TI := fun σ H R => ta σ H fun vs H1 => ∃ a xs, vs = [.ref a] ∧ SqT K H1 a xs ∧ R (IteT K a) H1
theorem pi_enumT {X : Cx} {e : Expr} {ta : TA} {p pos tpos : Pos} {elts : List Expr} {kk : Nat} (hg : Gl X "enumerate") (hm : X.mg "enumerate" = none) (ha : PA X [e] ta) (hs : starEach [e] X.env = [(false, eval e X.env)] := by rfl) :
    PI X (.Tuple elts kk tpos) (.Call (.Name "enumerate" p) [e] [] pos) (iEnumT X.K ta) := by
  refine ⟨fun pins s σ H R I h => ?_⟩
  refine Call_ (ld_blt I hg hm boot_enumerate (PyProof.Rows.callWith_type1 (thn (ha.run pos pins s σ H _ I h) fun us s1 ⟨vs, H1, I1, r1, q1⟩ => ?_) hs rfl))
  obtain ⟨a, xs, ex, hq, q⟩ := q1
  subst ex
  cases r1 with
  | cons r rr =>
    cases rr
    cases r
    obtain ⟨its, rv, p', hz⟩ := I1.tuple hq
    have hal : a < s1.heap.objs.size := by obtain ⟨o, ho, _⟩ := p'; exact Heap.lt_size ho
    refine call_enum1 (begins_tuple a its.toArray) p' fun h' he hit hsz hk => wpAny_pyIter_enum he ?_
    have I2 : Inv X pins σ H1 { s1 with heap := h' } := I1.kept (t' := s1.toks) hk
    refine ⟨s1.heap.objs.size + 1, [s1.heap.objs.size + 1, s1.heap.objs.size], _, _, H1, rfl, I2, turn_enumT a (s1.heap.objs.size + 1) s1.heap.objs.size, ⟨⟨.none, he⟩, ⟨_, hit, rfl, rfl⟩, Nat.succ_ne_self _, Nat.ne_of_lt hal, fun z => by rw [← z] at hal; exact absurd hal (Nat.not_lt.mpr (Nat.le_succ _))⟩, fun b hb => ?_, q⟩
    have e' : b = s1.heap.objs.size + 1 ∨ b = s1.heap.objs.size := by simpa using hb
    have hle : s1.heap.objs.size ≤ b := by
      rcases e' with z | z
      · rw [z]; exact Nat.le_add_right _ _
      · rw [z]; exact Nat.le_refl _
    exact I1.fpOk hle (I1.hok.fresh hle)

/-! ### repr -/
def dRepr : List D → Rv D
  | [d] => if nodict d = true ∧ d.showable = true ∧ d.depth ≤ 60 ∧ d.shown.length ≤ 16000000 then .ok (.str d.shown) else .un
  | _ => .un
theorem dRepr_1 (d : D) : dRepr [d] = if nodict d = true ∧ d.showable = true ∧ d.depth ≤ 60 ∧ d.shown.length ≤ 16000000 then .ok (.str d.shown) else .un := rfl
def rReprD (K : PySem.W.Frag) : List V → Hp → VK → Prop := fun xs H Q => ∃ v d, xs = [v] ∧ Dp K H v d ∧ nodict d = true ∧ d.showable = true ∧ d.depth ≤ 60 ∧ d.shown.length ≤ sizeLine ∧ Q (.str d.shown) H
mutual
theorem nodict_has : ∀ d : D, nodict d = true → d.hasDict = false
  | .none, _ => by simp only [PyData.hasDict]
  | .bool _, _ => by simp only [PyData.hasDict]
  | .int _, _ => by simp only [PyData.hasDict]
  | .str _, _ => by simp only [PyData.hasDict]
  | .list xs, h => by simp only [PyData.hasDict]; exact nodictA_has xs (by simpa [nodict] using h)
  | .tuple xs, h => by simp only [PyData.hasDict]; exact nodictA_has xs (by simpa [nodict] using h)
  | .dict _, h => by simp [nodict] at h
theorem nodictA_has : ∀ ds : List D, nodictA ds = true → PyData.hasDictAll ds = false
  | [], _ => by simp only [PyData.hasDictAll]
  | d :: ds, h => by
    rw [nodictA, Bool.and_eq_true] at h
    simp only [PyData.hasDictAll, nodict_has d h.1, nodictA_has ds h.2, Bool.or_false]
end
theorem call_reprD {X : Cx} (hgd : X.A.guards = some []) (hu : X.A.units + 65 < cLine) : CallR X (.builtin "repr") (rReprD X.K) := by
  intro pins s σ H xs us Q I r h
  obtain ⟨v, d, rfl, hd, hn, hs, hde, hz, q⟩ := h
  cases r with
  | cons r1 r2 =>
    cases r2
    have fin : ∀ {u : Tok} {h' : Heap} {tk : Nat}, (∀ b o, s.heap.get? b = some o → h'.get? b = some o) → EP X pins σ Q (.str d.shown u) { s with heap := h', toks := tk } := fun {u h' tk} k => ⟨.str d.shown, H, I.kept k, ⟨u, rfl⟩, q⟩
    obtain ⟨as, rd⟩ := Dp.reads I d v _ hd r1
    have hsm := PyData.noDict_hsm (as := as) (nodict_has d hn)
    cases d with
    | none => cases hd; cases r1; exact P.repr_of_none (by simp only [PyData.shown] at fin; exact fin fun _ _ e => e)
    | bool b => cases hd; cases r1; exact P.repr_of_bool (by simp only [PyData.shown] at fin; exact fin fun _ _ e => e)
    | int i => cases hd; obtain ⟨t, rfl⟩ := r1; exact P.repr_of_int (by simpa [PyData.showable] using hs) (by simp only [PyData.shown] at fin; exact fin fun _ _ e => e)
    | str x => cases hd; obtain ⟨t, rfl⟩ := r1; exact P.repr_of_str (by simp only [PyData.shown] at fin; exact fin fun _ _ e => e) (by simpa only [PyData.shown] using hz)
    | list ds =>
      cases hd with
      | lst h1 h2 => cases r1; exact repr_of_reads' rd hs hsm hgd (by omega) (fun _ _ e => e) (fun h' u tk k => fin k) hz
    | tuple ds =>
      cases hd with
      | tup h1 h2 => cases r1; exact repr_of_reads' rd hs hsm hgd (by omega) (fun _ _ e => e) (fun h' u tk k => fin k) hz
    | dict ds => simp [nodict] at hn
section
variable {S : Sx}
theorem on_repr : OpN S (rReprD S.K) dRepr := by
  intro xs ds H Z Q σ z r h
  cases r with
  | nil => exact False.elim h
  | cons r1 r2 =>
    cases r2 with
    | cons _ _ => exact False.elim h
    | nil =>
      rw [dRepr_1] at h
      split at h
      · rename_i hc
        exact ⟨_, _, rfl, (r1.gr (Gr.hid_le H Z)).dp hc.1, hc.1, hc.2.1, hc.2.2.1, line_ge hc.2.2.2, Post.ok (R := RE S) h (.str _)⟩
      · exact False.elim h
theorem call_reprX {S : Sx} (X : Cx) (hX : S.At X) : CallR X (.builtin "repr") (rReprD S.K) := hX.hK ▸ call_reprD hX.gd hX.units

/-! ### for a, b in enumerate(..) -/
def pairs : Nat → List D → List D
  | _, [] => []
  | i, d :: ds => .tuple [.int (i : Nat), d] :: pairs (i + 1) ds
theorem pairs_drop : ∀ (ds : List D) (i k : Nat), (pairs k ds).drop i = pairs (k + i) (ds.drop i)
  | [], i, k => by simp [pairs]
  | d :: ds, 0, k => by simp [pairs]
  | d :: ds, i + 1, k => by
    show (pairs (k + 1) ds).drop i = pairs (k + (i + 1)) (ds.drop i)
    rw [pairs_drop ds i (k + 1), show k + 1 + i = k + (i + 1) by omega]
def sforE (M : List Nat) (is : List Nat) (f : Vw → Rv (List D)) (g : Env' → Res) (ρ : Env') : Res := (f (vw M ρ)).st fun ds => match ds with
  | [d] => match items d with
    | some xs => forL (bTup is) g (pairs 0 xs) (if imm d = true then ρ else frz M ρ)
    | none => .un
  | _ => .un
theorem ss_forE {e : Expr} {ts : List Expr} {kt : Nat} {pt p pos pos' : Pos} {body : List Stmt} {is : List Nat} {f : Vw → Rv (List D)} {g : Env' → Res} (M : List Nat) (hm : S.mg "enumerate" = none) (ht : SemG S ts is) (hi : SemA S [e] f) (hb : SemSs S body g) (hdf : S.df = true := by rfl)
    (hgl : S.sc.names.lookup ("enumerate" : Str) = some .globalImplicit := by rfl) (hst : ∀ env, starEach [e] env = [(false, eval e env)] := by intro _; rfl)
    (hn : ∀ env, (assignEach ts env).length = is.length := by intro _; rfl) (hst2 : ∀ env, (assignEach ts env).findIdx? (·.1) = none := by intro _; rfl)
    (hs : ∀ env x, foldedSetIterable (.Call (.Name "enumerate" p) [e] [] pos) env x = pure x := by intro _ _; rfl) : SemS S (.For (.Tuple ts kt pt) (.Call (.Name "enumerate" p) [e] [] pos) body [] pos') (sforE M is f g) := by
  obtain ⟨ti, pi, qi⟩ := hi.ex
  obtain ⟨tt, ptt, qt⟩ := (tg_tup (S := S) (kt := kt) (pt := pt) ht hn hst2).ex
  obtain ⟨tb, pb, qb⟩ := hb.ex
  refine ⟨⟨tFor (fun σ H R => iEnum S.K ti σ H R ∨ iEnumT S.K ti σ H R) tt tb, fun X hX => ?_, fun ρ F H0 Z σ H Dn ⟨o, k⟩ h => ?_⟩⟩
  · rw [← hX.hK]
    have hg' : Gl X "enumerate" := by show X.env.scope.names.lookup ("enumerate" : Str) = _; rw [hX.hsc]; exact hgl
    exact ps_for (hX.pass hdf) hX.calm (PI.or (pi_enum hg' (by rw [hX.hmg]; exact hm) (pi X hX) (hst _)) (pi_enumT hg' (by rw [hX.hmg]; exact hm) (pi X hX) (hst _))) (ptt X hX) (pb X hX) (hs _)
  · unfold sforE at h
    cases ef : f (vw M ρ) with
    | un => rw [ef] at h; exact False.elim h
    | xc x =>
      refine .inl (qi (vw M ρ) σ H (hz Z ρ o M) _ k.hin k.view ?_)
      rw [ef] at h ⊢
      exact fun cls dx H' e q => h cls dx σ H' (k.gr.trans e) (k.out e) (q.gr ((Gr.refl H').hid2 fun a z => .inl z))
    | ok dl =>
      rw [ef] at h
      simp only [Rv.st_ok] at h
      cases dl with
      | nil => exact False.elim h
      | cons d dr =>
        cases dr with
        | cons _ _ => exact False.elim h
        | nil =>
          have h : PostS S F H0 Z Dn (match items d with | some xs => forL (bTup is) g (pairs 0 xs) (if imm d = true then ρ else frz M ρ) | none => .un) := h
          have start : ∀ {v : V} {H' : Hp}, OkAt S.c F H0 Z ρ o σ H' → Rp S.c (hid H' (hz Z ρ o M)) v d → ∃ F1, Gr F F1 ∧ Gr F1 H' ∧ Ok S.c F1 H0 Z (if imm d = true then ρ else frz M ρ) σ H' ∧ Rp S.c F1 v d := by
            intro v H' k' r
            by_cases hm : imm d = true
            · rw [if_pos hm]
              exact ⟨_, k'.fr, Gr.hid_le _ _, ⟨o, k'.keep (Gr.refl _)⟩, k'.imm hm r⟩
            · rw [if_neg hm]
              have k3 := k'.freeze M
              exact ⟨_, k3.fr, Gr.hid_le _ _, ⟨o, k3.keep (Gr.refl _)⟩, by rw [hid_frz]; exact r⟩
          -- one turn: a new pair
          have turn : ∀ (F1 : Hp) (xs : List V) (ds : List D) (i : Nat) (σ' : L2.St) (H2 H3 : Hp) (x : V) (Nx : L2.St → Hp → Prop), Gr F F1 → RpA S.c F1 xs ds → YPair (fun i => some (.int (i : Nat))) (fun i => xs[i]?) i H2 x H3 →
              (∃ ρ', Ok S.c F1 H0 Z ρ' σ' H2 ∧ PostS S F H0 Z Dn (forL (bTup is) g ((pairs 0 ds).drop i) ρ')) →
              (∀ σ3 H4, (∃ ρ', Ok S.c F1 H0 Z ρ' σ3 H4 ∧ PostS S F H0 Z Dn (forL (bTup is) g ((pairs 0 ds).drop (i + 1)) ρ')) → Nx σ3 H4) →
              tt x σ' H3 fun σ2 H2 => tb { Dn with nx := Nx, ct := Nx, bk := Dn.nx } σ2 H2 := by
            intro F1 xs ds i σ' H2 H3 x Nx eF r2 hy ⟨ρ', ⟨o', k2⟩, hp⟩ hN
            obtain ⟨T, a0, y, rfl, hT, rfl, e1, e2⟩ := hy
            cases e1
            obtain ⟨dy, hd, rd⟩ := RpA.got r2 e2
            rw [pairs_drop, Nat.zero_add, drop_cons hd] at hp
            have hp : PostS S F H0 Z Dn (forL (bTup is) g (.tuple [.int (i : Nat), dy] :: pairs (i + 1) (ds.drop (i + 1))) ρ') := hp
            have k3 := (k2.grow (Gr.new (o := .tup [.int (i : Nat), y]) hT)).keep (Gr.refl _)
            have hid3 : hid (upd H2 T (.tup [.int (i : Nat), y])) (hz Z ρ' o' []) T = some (.tup [.int (i : Nat), y]) := hid_new (k2.hin (M := [])) hT
            have g13 : Gr F1 (hid (upd H2 T (.tup [.int (i : Nat), y])) (hz Z ρ' o' [])) := k2.fr.trans ((Gr.new hT).hid _)
            refine turn_run (F1 := hid (upd H2 T (.tup [.int (i : Nat), y])) (hz Z ρ' o' [])) qt qb (eF.trans g13) ⟨o', k3⟩ (.tup (.inl (.inl hid3)) (.cons (.int _) (.cons (rd.gr g13) .nil))) hp fun ρ2 σ3 H4 k4 h4 => ?_
            refine hN σ3 H4 ⟨ρ2, k4.keep g13, ?_⟩
            rw [pairs_drop, Nat.zero_add]
            exact h4
          have done : ∀ (F1 : Hp) (xs : List V) (ds : List D) (σ' : L2.St) (H2 : Hp), Gr F F1 → RpA S.c F1 xs ds → (∃ ρ', Ok S.c F1 H0 Z ρ' σ' H2 ∧ PostS S F H0 Z Dn (forL (bTup is) g ((pairs 0 ds).drop xs.length) ρ')) → Dn.nx σ' H2 := by
            intro F1 xs ds σ' H2 eF r2 ⟨ρ', k2, hp⟩
            rw [pairs_drop, RpA.length r2, List.drop_length] at hp
            exact hp σ' H2 (k2.keep eF)
          cases d with
          | list ds =>
            refine .inl (qi (vw M ρ) σ H (hz Z ρ o M) _ k.hin k.view ?_)
            rw [ef]
            intro vs H' e r
            have k' := k.grow e
            cases r with
            | cons r rn =>
              cases rn
              obtain ⟨F1, eF, gF, k1, r1⟩ := start k' r
              cases r1 with
              | @lst a xs _ r1 r2 =>
                refine ⟨a, xs, rfl, (gF.rdl r1).sq, ?_⟩
                exact for_it (walk_enum (K := S.K) (a := a) (xs := xs)) (g := tt) (tb := tb) (D := Dn) (σ := σ) (H := H') (fun i σ' H2 => ∃ ρ', Ok S.c F1 H0 Z ρ' σ' H2 ∧ PostS S F H0 Z Dn (forL (bTup is) g ((pairs 0 ds).drop i) ρ')) ⟨_, k1, h⟩
                  (fun i σ' H2 _ ⟨ρ', ⟨o', k2⟩, _⟩ => ((k2.fr.trans (Gr.hid_le _ _)).rdl r1).sq) (fun i x σ' H2 H3 _ w hy => turn F1 xs ds i σ' H2 H3 x _ eF r2 hy w fun σ3 H4 w => w) (fun σ' H2 w => done F1 xs ds σ' H2 eF r2 w)
          | tuple ds =>
            refine .inr (qi (vw M ρ) σ H (hz Z ρ o M) _ k.hin k.view ?_)
            rw [ef]
            intro vs H' e r
            have k' := k.grow e
            cases r with
            | cons r rn =>
              cases rn
              obtain ⟨F1, eF, gF, k1, r1⟩ := start k' r
              cases r1 with
              | @tup a xs _ r1 r2 =>
                refine ⟨a, xs, rfl, gF.sqT r1, ?_⟩
                have wk : Walk (IteT S.K a) xs.length (fun H => SqT S.K H a xs) (YPair (fun i => some (.int (i : Nat))) (fun i => xs[i]?)) := by
                  refine ⟨fun i _ hi q => ⟨xs, xs[i], q, by simp [hi]⟩, fun _ q => ⟨xs, q, rfl⟩, fun i H v H' _ q y => ?_⟩
                  obtain ⟨T, x, h1, h2, h3, h4⟩ := y
                  exact ⟨T, .int (i : Nat), x, h1, h2, h3, rfl, h4 xs q⟩
                exact for_it wk (g := tt) (tb := tb) (D := Dn) (σ := σ) (H := H') (fun i σ' H2 => ∃ ρ', Ok S.c F1 H0 Z ρ' σ' H2 ∧ PostS S F H0 Z Dn (forL (bTup is) g ((pairs 0 ds).drop i) ρ')) ⟨_, k1, h⟩
                  (fun i σ' H2 _ ⟨ρ', ⟨o', k2⟩, _⟩ => (k2.fr.trans (Gr.hid_le _ _)).sqT r1) (fun i x σ' H2 H3 _ w hy => turn F1 xs ds i σ' H2 H3 x _ eF r2 hy w fun σ3 H4 w => w) (fun σ' H2 w => done F1 xs ds σ' H2 eF r2 w)
          | _ => exact False.elim h
end
end Bv

namespace Bv
open PySem PySem.Spec L2 PyProof.Rows

/-! ### the end: a law's def, told of data, called with a row of whole numbers -/
section
variable {P : Program} {w : World} {K : PySem.W.Frag} {mg mb : Str → Option Value} {s₁ : Shared}
/-- one call, from a heap in which at most the row is tracked -/
theorem call_from {k : Nat} {fa a : Addr} {nm : Str} {g : List D → Rv D} {ns : List Int} {vs : List Value} {H : Hp}
    (KX : K.In s₁.heap) (hns : s₁.heap.Ns mainGlobals mg) (hb : s₁.heap.Ns builtinsNs mb) (hbb : ∀ x : Str, x ≠ "__name__" → mb x = bootBuiltins x) (hlim : s₁.heap.NoLimit) (hg : s₁.gens = #[])
    (ha : s₁.heap.get? a = some { cls := .type "list", data := .seq vs.toArray }) (hr : Room k callerA) (hfa : mg nm = some (.ref fa)) (F : ∀ base, Lk ⟨P, w, K, mg, base⟩ k nm 1 g) (hlaw : g [.list (ns.map .int)] = .ok (.bool true))
    (hH : ∀ b u, H b = some u → b = a ∧ K.lookup a = none ∧ ∃ o xs, u = .frz o (.lst xs)) (hok : HOk P w H s₁.heap) (hS : RdL K H a (ns.map V.int)) :
    codeAny (model P w) callerA (.call (.ref fa) ⟨[.ref a], []⟩) (fun r s' => r = .ok (.ret (.bool true)) ∧ OldK s₁.heap s'.heap ∧ s'.os = s₁.os ∧ AllBare s'.gens) s₁ := by
  have free : ∀ {b : Addr}, b ≠ a → H b = none := fun {b} hb => by
    cases e : H b with
    | none => rfl
    | some u => exact absurd (hH b u e).1 hb
  have kept : ∀ {b : Addr} {o : Obj}, s₁.heap.get? b = some o → H b = none → (hidT s₁.heap H).get? b = some o := fun e n => hidT_get e n
  have nsB : ∀ {b : Addr} {m : Str → Option Value}, s₁.heap.Ns b m → (hidT s₁.heap H).Ns b m := fun {b m} ⟨o, es, ep, e, d, r⟩ => ⟨o, es, ep, kept e (free fun z => by
    subst z
    rw [ha] at e
    obtain rfl := Option.some.inj e
    exact absurd (show Data.seq vs.toArray _ = Data.dict es ep from d) (by simp)), d, r⟩
  have kIn : K.In (hidT s₁.heap H) := fun b o e => kept (KX b o e) (by
    cases q : H b with
    | none => rfl
    | some u =>
      obtain ⟨e1, e2, _⟩ := hH b u q
      rw [e1, e2] at e
      cases e)
  have hM : Mod K mg (hidT s₁.heap H) := ⟨kIn, nsB hns, ⟨mb, nsB hb, hbb⟩, hlim.imp fun mc q => ⟨nsB q.1, q.2⟩⟩
  have e0 : Env0 P w K mg (hidT s₁.heap H) callerA [] s₁ H := ⟨rfl, hM, fun b o e => of_hidT e, Nat.le_of_eq (hidT_size _ _), trivial, fun b hb => absurd (show b ∈ ([] : List Addr) from hb) (by simp), hok, .of_eq hg⟩
  obtain ⟨f, fd, ps, F, hm, _, hbd⟩ := (F (hidT s₁.heap H)).ex
  have hm : mg nm = some (.ref f) := hm
  obtain rfl : f = fa := by rw [hfa] at hm; cases hm; rfl
  have rD : ∀ xs : List Int, RpA ⟨P, w, K, mg⟩ (hid H fun _ => False) (xs.map V.int) (xs.map .int) := fun xs => by
    induction xs with
    | nil => exact .nil
    | cons x xs ih => exact .cons (.int x) ih
  have eH : Gr H (hid H fun _ => False) := fun b o e => by rw [hid_no (fun z => z)]; exact e
  have hsp : spD ⟨P, w, K, mg⟩ mg 1 g [.ref a] H (fun v _ => v = .bl true) fun _ _ _ => False := by
    refine ⟨fun _ => False, [.list (ns.map .int)], rfl, fun _ z => z.elim, .cons (.lst (eH.rdl hS) (rD ns)) .nil, ?_⟩
    rw [hlaw]
    intro v H' _ r
    cases r
    rfl
  have hl := F.len _ _ _ _ hsp
  have bd := hbd s₁ [.ref a] KX (by simpa using hl)
  rw [List.append_nil] at bd
  refine codeAny_mono (F.run callerA [] s₁ H ⟨[.ref a], []⟩ [.ref a] [.ref a] _ _ rfl hr e0 bd (.cons rfl .nil) hsp) fun r s' h => ?_
  cases r with
  | error e =>
    obtain ⟨_, _, _, _, _, _, _, _, _, _, _, _, _, _, _, _, z⟩ := h
  | ok fl =>
    cases fl with
    | ret u =>
      obtain ⟨v, H', os, bare, un, hok', rv, qv⟩ := h
      obtain rfl : v = .bl true := qv
      obtain rfl : u = Value.bool true := rv
      refine ⟨rfl, OldK.of_keep fun b o e => ?_, os, bare⟩
      cases q : H b with
      | none => exact un.keep b o e q (by intro z; exact absurd (show b ∈ ([] : List Addr) from z) (by simp)) (by simp)
      | some u =>
        obtain ⟨_, _, ob, xs, rfl⟩ := hH b u q
        obtain ⟨e1, _⟩ := hok b _ q
        obtain ⟨e2, _⟩ := hok' b _ (un.frzs b ob _ q)
        rw [e] at e1
        cases e1
        exact e2
    | _ => exact False.elim h
/-- the call of the law -/
theorem law_G {k : Nat} {fa a : Addr} {nm : Str} {g : List D → Rv D} {ns : List Int} {vs : List Value}
    (KX : K.In s₁.heap) (hns : s₁.heap.Ns mainGlobals mg) (hb : s₁.heap.Ns builtinsNs mb) (hbb : ∀ x : Str, x ≠ "__name__" → mb x = bootBuiltins x) (hlim : s₁.heap.NoLimit) (hg : s₁.gens = #[])
    (ha : s₁.heap.get? a = some { cls := .type "list", data := .seq vs.toArray }) (hi : IntsAre vs ns) (hl : ns.length ≤ sizeLine) (hr : Room k callerA) (hfa : mg nm = some (.ref fa)) (F : ∀ base, Lk ⟨P, w, K, mg, base⟩ k nm 1 g) (hlaw : g [.list (ns.map .int)] = .ok (.bool true)) :
    codeAny (model P w) callerA (.call (.ref fa) ⟨[.ref a], []⟩) (fun r s' => r = .ok (.ret (.bool true)) ∧ OldK s₁.heap s'.heap ∧ s'.os = s₁.os ∧ AllBare s'.gens) s₁ := by
  have rv := vals_ints hi
  cases hk : K.lookup a with
  | some o =>
    have e := KX a o hk
    rw [ha] at e
    cases e
    exact call_from (H := fun _ => none) KX hns hb hbb hlim hg ha hr hfa F hlaw (fun b u z => by cases (show (none : Option HO) = some u from z)) (fun b u z => by cases (show (none : Option HO) = some u from z)) (.inr ⟨vs, _, hk, rv, by rw [List.length_map]; exact hl⟩)
  | none =>
    refine call_from (H := upd (fun _ => none) a (.frz { cls := .type "list", data := .seq vs.toArray } (.lst (ns.map V.int)))) KX hns hb hbb hlim hg ha hr hfa F hlaw (fun b u z => ?_) (fun b u z => ?_) (.inl (.inr ⟨_, upd_same⟩))
    all_goals
      by_cases hba : b = a
      · subst hba
        rw [upd_same] at z
        cases z
        first
          | exact ⟨rfl, hk, _, _, rfl⟩
          | exact ⟨ha, by rw [List.length_map]; exact hl, vs, _, rv, ha⟩
      · rw [upd_ne hba] at z
        cases z
end
/-- what the row's head leaves: from the law's meaning -/
theorem walk_G {l : PySem.W.OpenLaw} {q : Program} {loose : List Str} {XP : (Str → Option Value) → Heap → Prop} {YP : World → Heap → Prop} {d : DefRec} {K : Params → PySem.W.Frag} {k : Nat} {g : List D → Rv D} (hn : l.most = some 63) (hdf : d.params.defaults = [])
    (hr : Room k callerA) (hY : ∀ (w : World) (h : Heap), YP w h → (K w.params).In h)
    (F : ∀ (w : World) (mg : Str → Option Value) (h : Heap) (base : Heap), (K w.params).In h → h.Ns mainGlobals mg → Lk ⟨l.prog, w, K w.params, mg, base⟩ k d.name 1 g)
    (hlaw : ∀ ns : List Int, ns.length ≤ 63 → (∀ z ∈ ns, Builtin.Int.intBits z ≤ 1048576) → g [.list (ns.map .int)] = .ok (.bool true)) :
    PySem.W.WalkO q loose XP YP l.row.toRowW d [] (fun f vs => PySem.call f vs) :=
  Att.attach_callB hn hdf fun w s₀ s₁ mg mb fa o pm cd doc a vs ns G Y ho hd hcd hmg hobj hints hlen hbits hg =>
    law_G (hY w _ Y) G.T.g G.T.b G.T.builtins G.T.nolimit hg hobj hints (Nat.le_trans hlen (by decide)) hr hmg (fun base => F w mg _ base (hY w _ Y) G.T.g) (hlaw ns hlen hbits)
end Bv

namespace Bv
open PySem PySem.Spec L2 PyProof.Rows
/-! ### list times a whole number, list + list: new lists -/
section
variable {S : Sx}
def dMulF : D → D → Rv (List D)
  | .list xs, .int k => if -1000 ≤ k ∧ k ≤ 1000 ∧ xs.length ≤ 1000 then .ok (List.replicate k.toNat xs).flatten else .un
  | _, _ => .un
def dAddF : D → D → Rv (List D)
  | .list xs, .list ys => if xs.length + ys.length ≤ 16000000 then .ok (xs ++ ys) else .un
  | _, _ => .un
def biF (g : D → D → Rv (List D)) (fa fb : Vw → Rv D) (η : Vw) : Rv (List D) := (fa η).bind fun a => (fb η).bind fun b => g a b
theorem dMulF_l (xs : List D) (k : Int) : dMulF (.list xs) (.int k) = if -1000 ≤ k ∧ k ≤ 1000 ∧ xs.length ≤ 1000 then .ok (List.replicate k.toNat xs).flatten else .un := rfl
theorem dAddF_l (xs ys : List D) : dAddF (.list xs) (.list ys) = if xs.length + ys.length ≤ 16000000 then .ok (xs ++ ys) else .un := rfl
theorem biF_run {ta tb : TE} {fa fb : Vw → Rv D} {r : R2} {g : D → D → Rv (List D)}
    (hr : ∀ x y a b H Z Q σ, In Z H → Rp S.c (hid H Z) x a → Rp S.c (hid H Z) y b → Post S (RF S) σ Z H (fun p H' => H' p.1 = none → Q (.ref p.1) (upd H' p.1 (.lst p.2))) (g a b) → r x y H Q)
    (ha : Tells S (RE S) ta fa) (hb : Tells S (RE S) tb fb) : TellsF S (tOp r ta tb) (biF g fa fb) := by
  intro η σ H Z Q z hη h
  refine ha η σ H Z _ z hη (Post.bind h fun a x H1 _ e1 r1 h1 => ?_)
  refine hb η σ H1 Z _ (z.gr e1) (hη.gr (e1.hid Z)) (Post.bind h1 fun b y H2 _ e2 r2 h2 => ?_)
  exact hr x y a b H2 Z Q σ ((z.gr e1).gr e2) (r1.gr (e2.hid Z)) r2 h2
theorem sf_mul {a b : Expr} {fa fb : Vw → Rv D} {pos : Pos} (ha : SemE S a fa) (hb : SemE S b fb) : SemF S (.BinOp a .Mult b pos) (biF dMulF fa fb) := by
  obtain ⟨ta, pa, qa⟩ := ha.ex
  obtain ⟨tb, pb, qb⟩ := hb.ex
  refine ⟨⟨_, fun X hX => pe_op (hX.hK ▸ op_repR) (pa X hX) (pb X hX), biF_run ?_ qa qb⟩⟩
  intro x y a b H Z Q σ z ra rb h
  cases ra with
  | lst h1 r1 =>
    cases rb with
    | int k =>
      rw [dMulF_l] at h
      split at h
      · rename_i hc
        have hl := RpA.length r1
        refine ⟨_, k, _, rfl, rfl, (Gr.hid_le H Z).rdl h1, by omega, by omega, ?_, fun p hp => h (p, _) H (Gr.refl H) (RpA.rep r1 _) hp⟩
        rw [hl]
        exact line_ge (Nat.le_trans (Nat.mul_le_mul hc.2.2 (show k.toNat ≤ 1000 by omega)) (by decide))
      · exact False.elim h
    | _ => exact False.elim h
  | _ => exact False.elim h
theorem sf_add {a b : Expr} {fa fb : Vw → Rv D} {pos : Pos} (ha : SemE S a fa) (hb : SemE S b fb) : SemF S (.BinOp a .Add b pos) (biF dAddF fa fb) := by
  obtain ⟨ta, pa, qa⟩ := ha.ex
  obtain ⟨tb, pb, qb⟩ := hb.ex
  refine ⟨⟨_, fun X hX => pe_op (hX.hK ▸ op_catR) (pa X hX) (pb X hX), biF_run ?_ qa qb⟩⟩
  intro x y a b H Z Q σ z ra rb h
  cases ra with
  | lst h1 r1 =>
    cases rb with
    | lst h2 r2 =>
      rw [dAddF_l] at h
      split at h
      · rename_i hc
        have e1 := RpA.length r1
        have e2 := RpA.length r2
        exact ⟨_, _, _, _, rfl, rfl, (Gr.hid_le H Z).rdl h1, (Gr.hid_le H Z).rdl h2, line_ge (by omega), fun p hp => h (p, _) H (Gr.refl H) (RpA.append r1 r2) hp⟩
      · exact False.elim h
    | _ => exact False.elim h
  | _ => exact False.elim h
end
/-! ### x.insert(i, e), x a list of one's own -/
theorem TreeA.ins {c : Cz} {Hv H : Hp} {n : Nat} {v : V} {d : D} (hd : Tree c Hv H n v d []) {vs : List V} : ∀ {ds : List D} {U : List Addr} (i : Nat), TreeA c Hv H n vs ds U → TreeA c Hv H n (vs.take i ++ [v] ++ vs.drop i) (ds.take i ++ [d] ++ ds.drop i) U := by
  induction vs with
  | nil =>
    intro ds U i h
    cases h
    simp only [List.take_nil, List.drop_nil, List.nil_append, List.append_nil]
    exact .cons (U := []) (W := []) hd .nil (fun a h => by cases h)
  | cons w vs ih =>
    intro ds U i h
    cases i with
    | zero =>
      simp only [List.take_zero, List.drop_zero, List.nil_append, List.singleton_append]
      exact .cons (U := []) hd h (fun a h => by cases h)
    | succ i =>
      cases h with
      | cons h1 h2 h3 =>
        simp only [List.take_succ_cons, List.drop_succ_cons, List.cons_append]
        exact .cons h1 (ih i h2) h3
section
variable {S : Sx}
def ins (j : Nat) (M : List Nat) (f : Vw → Rv (List D)) (ρ : Env') : Res := match ρ[j]? with
  | some (.ow (n + 1) (.list xs)) => (f (vw M ρ)).st fun ds => match ds with
    | [.int i, y] => if xs.length < 16000000 ∧ 0 ≤ i ∧ i < 1000000000 ∧ imm y = true then .nx (ρ.set j (.ow (n + 1) (.list (xs.take i.toNat ++ [y] ++ xs.drop i.toNat)))) else .un
    | _ => .un
  | _ => .un
def rIns : V → List V → Hp → VK → Prop := fun x vs H Q => ∃ (l : Addr) (xs : List V) (i : Int) (y : V), x = .ref l ∧ vs = [.int i, y] ∧ H l = some (.lst xs) ∧ xs.length < sizeLine ∧ 0 ≤ i ∧ i < 2 ^ 63 ∧
    Q .non (upd H l (.lst (xs.take i.toNat ++ [y] ++ xs.drop i.toNat)))
theorem ss_ins {j : Nat} {x : Str} {a e : Expr} {f : Vw → Rv (List D)} {p1 p2 p3 p4 : Pos} (M : List Nat) (he : SemA S [a, e] f) (hN : S.N[j]? = some x := by rfl) (hv : Vis S.sc x := by first | exact Or.inl rfl | exact Or.inr (Or.inl rfl) | exact Or.inr (Or.inr rfl)) (hd : (x == ("__debug__" : Str)) = false := by decide)
    (hcd : (x == ("__classdict__" : Str)) = false := by decide) (hbase : ∀ env, attributeBase (.Name x p1) "insert" env (eval (.Name x p1) env) = eval (.Name x p1) env := by intro _; rfl)
    (hfew : ∀ env, ((backTo p3 (starEach [a, e] env)).all (fun x => !x.1) && (backToKw p3 (keywordEach [] env)).all (fun x => x.1.isSome)
      && decide (([a, e] : List Expr).length + ([] : List Keyword).length + (if ([] : List Keyword).isEmpty then 0 else 1) < 30)) = true := by intro _; rfl)
    (hline : (p2.endLine == p3.line) = true := by rfl) (hs : ∀ env, starEach [a, e] env = (false, eval a env) :: starEach [e] env := by intro _; rfl) (hplain : ∀ env, (backTo p3 (starEach [e] env)).any (·.1) = false := by intro _; rfl)
    (hsw : ∀ env, swapsWith (.Call (.Attribute (.Name x p1) "insert" p2) [a, e] [] p3) none p4.line env = pure false := by intro _; rfl) : SemS S (.Expr (.Call (.Attribute (.Name x p1) "insert" p2) [a, e] [] p3) p4) (ins j M f) := by
  obtain ⟨t, p, q⟩ := he.ex
  refine ⟨⟨tDrop (tBM S.K "list" rIns (tVar j) t), fun X hX => ?_, fun ρ F H0 Z σ H Dn ⟨o, k⟩ h => ?_⟩⟩
  · rw [← hX.hK]
    exact ps_expr (pe_bm PySem.F.plainAttrs_list PySem.F.slot_list_insert PySem.F.type_list_insert mt_insert (pe_var (by rw [hX.hN]; exact hN) (by rw [hX.hsc]; exact hv) hd hcd) (p X hX) (hbase _) (hfew _) hline (hs _) (hplain _)) (hsw _)
  unfold ins at h
  split at h
  · rename_i n xs hj
    obtain ⟨⟨v0, s1, tr⟩, s2⟩ := k.ow j _ _ hj
    obtain ⟨b, vs, W, rfl, hU, s4, s5, s6⟩ := tr.isL
    refine ⟨_, s1, .inl ⟨rfl, vs, .inl (.inl s4)⟩, ?_⟩
    refine q (vw M ρ) σ H (hz Z ρ o M) _ k.hin k.view (run_e (R := RA S) k h fun ds v H' _ k' r h' => ?_)
    obtain ⟨⟨v0', s1', tr'⟩, s2'⟩ := k'.ow j _ _ hj
    rw [s1] at s1'
    cases s1'
    obtain ⟨b', vs', W', ea, hU', w4, w5, w6⟩ := tr'.isL
    cases ea
    have hl := TreeA.length w5
    split at h'
    · rename_i w0 i y _
      split at h'
      · rename_i hc
        cases r with
        | cons r1 r2 =>
          cases r2 with
          | @cons yv _ _ _ r2 r3 =>
            cases r3
            cases r1
            refine ⟨b, vs', i, yv, rfl, rfl, w4, line_gt (by omega), hc.2.1, by omega, ?_⟩
            have hne : ∀ z, z ∉ o j → upd H' b (.lst (vs'.take i.toNat ++ [yv] ++ vs'.drop i.toNat)) z = H' z := fun z hz => upd_ne fun e => hz (by rw [hU', e]; exact List.mem_cons_self)
            have hW : ∀ z ∈ W', upd H' b (.lst (vs'.take i.toNat ++ [yv] ++ vs'.drop i.toNat)) z = H' z := fun z hz => upd_ne fun e => w6 (e ▸ hz)
            refine h' _ _ ⟨o, k'.change hj s1 hne fun Hv e => ?_⟩
            rw [hU']
            exact .lst upd_same (TreeA.ins (.leaf hc.2.2.2 ((k'.imm hc.2.2.2 r2).gr e)) i.toNat (TreeA.gr e hW w5)) w6
      · exact False.elim h'
    · exact False.elim h'
  · exact False.elim h
end
end Bv

namespace Bv
open PySem PySem.Spec L2 PyProof.Rows
/-! ### sorted(a list of whole numbers) -/
def intsOf : List D → Option (List Int)
  | [] => some []
  | .int i :: r => (intsOf r).map (i :: ·)
  | _ :: _ => none
theorem intsOf_map : ∀ (ns : List Int), intsOf (ns.map .int) = some ns
  | [] => rfl
  | n :: ns => by
    show (intsOf (ns.map .int)).map (n :: ·) = _
    rw [intsOf_map ns]
    rfl
theorem intsOf_eq : ∀ {xs : List D} {ns : List Int}, intsOf xs = some ns → xs = ns.map .int
  | [], _, h => by cases h; rfl
  | .int i :: r, ns, h => by
    have h : (intsOf r).map (i :: ·) = some ns := h
    cases e : intsOf r with
    | none => rw [e] at h; cases h
    | some ms => rw [e] at h; cases h; rw [intsOf_eq e]; rfl
  | .none :: _, _, h => by cases h
  | .bool _ :: _, _, h => by cases h
  | .str _ :: _, _, h => by cases h
  | .list _ :: _, _, h => by cases h
  | .tuple _ :: _, _, h => by cases h
  | .dict _ :: _, _, h => by cases h
def sortI (ns : List Int) : List Int := ns.mergeSort fun a b => decide (a ≤ b)
theorem sortI_perm (ns : List Int) : (sortI ns).Perm ns := List.mergeSort_perm _ _
theorem sortI_pw (ns : List Int) : (sortI ns).Pairwise (· ≤ ·) := by
  have := List.pairwise_mergeSort (le := fun a b : Int => decide (a ≤ b)) (fun a b c h1 h2 => by simp at *; omega) (fun a b => by simp; omega) ns
  exact this.imp fun h => of_decide_eq_true h
theorem sorted_unique : ∀ {xs ys : List Int}, xs.Perm ys → xs.Pairwise (· ≤ ·) → ys.Pairwise (· ≤ ·) → xs = ys
  | [], ys, p, _, _ => by rw [List.nil_perm.mp p]
  | x :: xs, [], p, _, _ => absurd p.length_eq (by simp)
  | x :: xs, y :: ys, p, h1, h2 => by
    have e : x = y := by
      have a := (List.pairwise_cons.mp h1).1
      have b := (List.pairwise_cons.mp h2).1
      have hx : x ∈ y :: ys := p.mem_iff.mp List.mem_cons_self
      have hy : y ∈ x :: xs := p.mem_iff.mpr List.mem_cons_self
      rcases List.mem_cons.mp hx with h | h
      · exact h
      · rcases List.mem_cons.mp hy with h' | h'
        · exact h'.symm
        · have := b x h
          have := a y h'
          omega
    subst e
    rw [sorted_unique ((List.perm_cons x).mp p) (List.pairwise_cons.mp h1).2 (List.pairwise_cons.mp h2).2]
theorem sortI_eq {xs ys : List Int} (p : xs.Perm ys) : sortI xs = sortI ys := sorted_unique ((sortI_perm xs).trans (p.trans (sortI_perm ys).symm)) (sortI_pw xs) (sortI_pw ys)
def dSortedF : List D → Rv (List D)
  | [.list xs] => match intsOf xs with | some ns => .ok ((sortI ns).map .int) | none => .un
  | _ => .un
theorem dSortedF_i (ns : List Int) : dSortedF [.list (ns.map .int)] = .ok ((sortI ns).map .int) := by
  show (match intsOf (ns.map .int) with | some ns => Rv.ok ((sortI ns).map PyData.int) | none => .un) = _
  rw [intsOf_map]
theorem RpA.ofInts {c : Cz} {H : Hp} : ∀ ns : List Int, RpA c H (ns.map V.int) (ns.map .int)
  | [] => .nil
  | n :: ns => .cons (.int n) (RpA.ofInts ns)
theorem RpA.isInts {c : Cz} {H : Hp} {vs : List V} : ∀ {ns : List Int}, RpA c H vs (ns.map .int) → vs = ns.map V.int := by
  induction vs with
  | nil =>
    intro ns h
    cases ns with
    | nil => rfl
    | cons n ns => cases h
  | cons v vs ih =>
    intro ns h
    cases ns with
    | nil => cases h
    | cons n ns =>
      cases h with
      | cons h1 h2 =>
        cases h1
        rw [ih h2]
        rfl
section
variable {S : Sx}
theorem on_sorted : OpNF S (rSortedI S.K) dSortedF := by
  intro xs ds H Z Q σ z r h
  cases r with
  | nil => exact False.elim h
  | cons r1 r2 =>
    cases r2 with
    | cons _ _ => cases r1 <;> exact False.elim h
    | nil =>
      cases r1 with
      | @lst a vs ds h1 h2 =>
        have hh : Post S (fun H' (p : Addr × List V) ds => RpA S.c H' p.2 ds) σ Z H (fun p H' => H' p.1 = none → Q (.ref p.1) (upd H' p.1 (.lst p.2))) (match intsOf ds with | some ns => .ok ((sortI ns).map .int) | none => .un) := h
        cases e : intsOf ds with
        | none => rw [e] at hh; exact False.elim hh
        | some ns =>
          rw [e] at hh
          clear h
          obtain rfl := intsOf_eq e
          obtain rfl := RpA.isInts h2
          refine ⟨a, ns, rfl, ((Gr.hid_le H Z).rdl h1).sq, fun ns' p k1 k2 hp => ?_⟩
          have e2 : ns' = sortI ns := sorted_unique (k1.trans (sortI_perm ns).symm) k2 (sortI_pw ns)
          subst e2
          exact hh (p, (sortI ns).map V.int) H (Gr.refl H) (RpA.ofInts _) hp
      | _ => exact False.elim h
end
end Bv

namespace Bv
open PySem PySem.Spec L2 PyProof.Rows

/-! ### an exception that was caught, kept by a name -/
section
variable {X : Cx} {pins : List (Addr × Obj)} {σ : L2.St} {H : Hp} {s : Shared}
/-- an object that stands, not ours as yet and new since the entry, becomes tracked -/
theorem track_more {a : Addr} {o : HO} (I : Inv X pins σ H s) (na : H a = none) (n0 : X.s_0.heap.get? a = none) (nL : a ≠ X.env.locals) (nC : ∀ x c, X.env.cells.lookup x = some c → c ≠ a) (nP : ∀ p ∈ X.pn ++ pins, p.1 ≠ a)
    (new : ObjOk X.prog X.w (upd H a o) s.heap a o) : Inv X pins σ (upd H a o) s := by
  have ne : ∀ {b : Addr} {u : HO}, H b = some u → b ≠ a := fun q => ne_of_none q na
  have n0' : ∀ {b : Addr} {u : Obj}, X.s_0.heap.get? b = some u → b ≠ a := fun {b u} q z => by rw [z, n0] at q; cases q
  exact {
    ok := I.ok, os := I.os, bare := I.bare, loc := I.loc, cell := I.cell, len := I.len
    base := {
      keep := I.base.keep, slot := I.base.slot, there := I.base.there
      free := fun b u q n hx => (upd_ne (n0' q)).trans (I.base.free b u q n hx)
      tups := fun b xs q => by have := I.base.tups b xs q; rw [upd_ne (ne this)]; exact this
      frzs := fun b u xs q => by have := I.base.frzs b u xs q; rw [upd_ne (ne this)]; exact this
      tbls := fun b ps q => by obtain ⟨m, z⟩ := I.base.tbls b ps q; exact ⟨m, by rw [upd_ne (ne z)]; exact z⟩ }
    free := (upd_ne (Ne.symm nL)).trans I.free
    freeC := fun x c q => (upd_ne (nC x c q)).trans (I.freeC x c q)
    pin := fun p hp => let ⟨p1, p2, p3⟩ := I.pin p hp; ⟨p1, (upd_ne (nP p hp)).trans p2, p3⟩
    hok := fun b u q => by
      by_cases hb : b = a
      · subst hb
        rw [upd_same] at q
        cases q
        exact new
      · rw [upd_ne hb] at q
        exact (I.hok b u q).stay (fun _ _ _ z => z) (fun c z => by rw [upd_ne (ne z)]; exact z) fun c xs z => by rw [upd_ne (ne z)]; exact z }
theorem rawE_ok {P : Program} {w : World} {H : Hp} {h : Heap} {a C : Addr} {d : Option Addr} {oe : Obj} {vs : Array Value} (he : h.get? a = some oe) (hz : Zc (.ref C) d oe) (hd : oe.data = .fields vs) : ObjOk P w H h a (rawE a C d) :=
  ⟨⟨oe, vs, he, hz, hd⟩, ⟨oe, he⟩, fun _ _ ⟨o, v, q, r⟩ k => ⟨o, v, k o q, r⟩⟩
theorem rawE_at {P : Program} {w : World} {H : Hp} {h : Heap} {a C : Addr} {d : Option Addr} (hok : HOk P w H h) (he : H a = some (rawE a C d)) : ∃ (oe : Obj) (vs : Array Value), h.get? a = some oe ∧ Zc (.ref C) d oe ∧ oe.data = .fields vs := by
  have x : ObjOk P w H h a (.ext fun h => ∃ (oe : Obj) (vs : Array Value), h.get? a = some oe ∧ Zc (.ref C) d oe ∧ oe.data = .fields vs) := hok a _ he
  exact x.1
end
/-- what 'except x as n: m = n' wishes of an exception of the body (slot i is n's, slot j is m's): it is tracked from then on -/
def wKeep (K : PySem.W.Frag) (nN : Nat) (c : Value) (i j : Nat) (Wo : WX) (D : Ends) : WX := fun cls d σ H => ∃ b, PySem.W.exmOne K cls c = some b ∧
  (b = true → ∃ C, cls = .ref C ∧ ∀ a, H a = none → σ.length = nN → D.nx (((σ.set i (some (.ref a))).set j (some (.ref a))).set i none) (upd H a (rawE a C d))) ∧ (b = false → Wo cls d σ H)
section
variable {X : Cx} {x n m : Str} {c : Value} {i j : Nat} {body : List Stmt} {np p1 p2 p3 pos pos' : Pos} {tb : WX → TS} {Wo : WX}
theorem ps_tryK (hs : X.stack = X.env :: X.outer) (hf : X.env.frame = some X.env.locals) (hex : X.ex = []) (hN : X.N.Nodup) (hi : X.N[i]? = some n) (hin : X.env.kindOf n = some .local) (hj : X.N[j]? = some m) (hjm : X.env.scope.names.lookup m = some .local) (hij : i ≠ j) (hc : Names X x c) (tk : Takes X Wo)
    (hnd : (n == ("__debug__" : Str)) = false) (hncd : (n == ("__classdict__" : Str)) = false)
    (hb : ∀ (W : WX) (pn : List (Addr × Obj)) (xe : Value → Shared → Prop), Takes (X.tr pn xe) W → PassesOwn (model X.prog X.w) X.A X.env xe → PSs (X.tr pn xe) body (tb W)) :
    PS X (.Try body [.ExceptHandler (some (.Name x np)) (some n) [.Assign [.Name m p1] (.Name n p2) p3] pos'] [] [] pos) (fun D σ H => tb (wKeep X.K X.N.length c i j Wo D) D σ H) := by
  refine ⟨fun pins s σ H D I h => ?_⟩
  have ok := I.ok
  have fr0 : X.A.frames = some (X.env :: X.outer) := ok.frames.trans (by rw [hs])
  have locN : Loc X.env.scope n := .inl hin
  refine wpAny_Try_except (wpAny_mono ((hb (wKeep X.K X.N.length c i j Wo D) (X.pn ++ pins) _ (fun u s' xx => ?_) PassesOwn.looking).run [] s σ H D (I.toTry _) h) (fun f s1 hsp => ?_) (fun e s1 he => he))
  · obtain ⟨a, B, sI, pq, σ', H', cls, d, rfl, J0, nb, up, sky, na, os, ag, b, hb1, hyes, hno⟩ := xx
    have J : Inv X pins σ' H' sI := J0.ofTry ok
    have sky1 : Sky B (X.env :: X.outer) a (Zc cls d) X.env.locals s'.heap := hs ▸ sky
    show wpAny (model X.prog X.w) X.A (noteFrame (.ref a) X.env) _ _ _
    refine Sky.land Zc.steady fr0 hf sky1 fun g3 F3 u3 => ?_
    have J3 : Inv X pins σ' H' { s' with heap := g3 } := J.landed nb F3.1 (up.trans u3) os ag
    obtain ⟨oq, vq, e3, z3, d3⟩ := F3.there
    have nfr : a ∉ frs (X.env :: X.outer) := fun hm => by
      obtain ⟨_, o', e', q⟩ := F3.2.2.1.mem hm
      rw [e3] at e'
      cases e'
      exact q _ d3
    have aL : a ≠ X.env.locals := fun z => nfr (List.mem_filterMap.mpr ⟨X.env, List.mem_cons_self, z ▸ hf⟩)
    have aF : a ∉ X.fs := fun hm => let ⟨e, he, q⟩ := List.mem_filterMap.mp hm; nfr (List.mem_filterMap.mpr ⟨e, List.mem_cons_of_mem _ he, q⟩)
    have aI : ∀ o, sI.heap.get? a ≠ some o := fun o q => by
      have := nb a o q (by rw [hs]; exact nfr)
      rw [F3.2.1] at this
      cases this
    have S3 := J3.suite e3 d3 na aL aF
    refine wpAny_handleBy_cons (codeAny_handlers_test ?_) (by intro q; cases q)
    have LT : PySem.W.Looks (model X.prog X.w) g3 (typeOf (.ref a)) cls := fun A Q E s k q => wpAny_typeOf_ref (k _ _ e3) (z3.1.symm ▸ q)
    have LM := PySem.W.exm_one (M := model X.prog X.w) J3.kIn LT hb1
    have go : ∀ {Q E : Value → Shared → Prop}, Q c { s' with heap := g3 } → wpAny (model X.prog X.w) (X.A.mark (some (.ref a))) (eval (.Name x np) X.env) Q E { s' with heap := g3 } := fun {Q E} q => by
      obtain ⟨c1, c2, c3 | ⟨c3, c4, c5⟩⟩ := hc
      · exact ld_glob (X := X.suite a ((a, oq) :: (X.pn ++ pins))) S3 c1 c3 q c2
      · exact ld_blt (X := X.suite a ((a, oq) :: (X.pn ++ pins))) S3 c1 c3 c4 q c5 c2
    refine go (LM.here ?_)
    cases b with
    | true =>
      obtain ⟨C, rfl, hq⟩ := hyes rfl
      refine codeAny_handlers_suite_as (HandSPX.lands_againZ F3 fun g4 F4 u4 => ?_)
      have J4 : Inv X pins σ' H' { s' with heap := g4 } := J.landed nb F4.1 ((up.trans u3).trans u4) os ag
      obtain ⟨oe, ve, e4, z4, d4⟩ := F4.there
      have S4 := J4.suite e4 d4 na aL aF
      refine store_ok (X := X.suite a ((a, oe) :: (X.pn ++ pins))) (v := .ref a) S4 hN hi locN rfl (fun s5 S5 => ?_) (.inr hin)
      have il : i < σ'.length := by rw [J.len]; exact (List.getElem?_eq_some_iff.mp hi).1
      have asgn : PSs (X.suite a ((a, oe) :: (X.pn ++ pins))) [.Assign [.Name m p1] (.Name n p2) p3] _ := pss_one (ps_set hN hj (.inl hjm) (pe_var hi (.inl hin) hnd hncd) (by rfl) (.inr hjm))
      refine wpAny_mono (asgn.run [] s5 _ H' { nx := fun σ6 H6 => σ6 = (σ'.set i (some (.ref a))).set j (some (.ref a)) ∧ H6 = H', rt := fun _ _ => False } S5 ⟨.ref a, by rw [List.getElem?_set_self il], rfl, rfl⟩) (fun f s6 hsp => ?_) (fun _ _ z => False.elim z)
      cases f with
      | next =>
        obtain ⟨σ6, H6, S6, rfl, rfl⟩ := hsp
        have J6 : Inv X pins _ H6 s6 := S6.unsuite ok
        obtain ⟨e6, _⟩ := S6.pin (a, oe) (List.mem_append_left _ List.mem_cons_self)
        have n0 : X.s_0.heap.get? a = none := by
          cases q : X.s_0.heap.get? a with
          | none => rfl
          | some o =>
            obtain ⟨o', z⟩ := J.base.there a o q (by rw [hex]; exact List.not_mem_nil)
            exact absurd z (aI o')
        have J7 : Inv X pins _ (upd H6 a (rawE a C d)) s6 := track_more J6 na n0 aL (fun y cc q z => by
            obtain ⟨v, o, w, _⟩ := J.cell y cc q
            rw [z] at w
            exact aI o w) (fun p hp z => by
            obtain ⟨w, _⟩ := J.pin p hp
            rw [z] at w
            exact aI _ w) (rawE_ok e6 z4 d4)
        exact gone_ok J7 hN hi hin fun s7 J8 => ⟨_, _, J8, hq a na J.len⟩
      | brk => obtain ⟨_, _, _, z⟩ := hsp; exact z.elim
      | cont => obtain ⟨_, _, _, z⟩ := hsp; exact z.elim
      | ret u => obtain ⟨_, _, _, _, _, z⟩ := hsp; exact z.elim
    | false =>
      show wpAny _ X.A (handleBy (.ref a) X.env []) _ _ _
      refine wpAny_handleBy_nil ?_
      obtain ⟨k1, k2, k3, oe, vs, T, oT, ts', he, hz, hd, h1, hr⟩ := id F3
      have on : wpAny (model X.prog X.w) X.A (setFlight (.ref a) X.env.frame) (fun _ s4 => wpAny (model X.prog X.w) X.A (throw (.ref a) : Sem Flow) (SP X pins D) X.xe s4) X.xe { s' with heap := g3 } := by
        rw [hf]
        exact HandSPX.setFlight_upZ F3 fun g4 h4 u4 => wpAny_throw (tk _ _ ⟨a, B, sI, pins, σ', H', cls, d, rfl, J, nb, (up.trans u3).trans u4, .inr (.inr (hs ▸ h4)), na, os, ag, hno rfl⟩)
      unfold PySem.passOn
      refine wpAny_bind (wpAny_field he hd h1 ?_)
      rw [if_neg (show ¬ ((Value.ref T == Value.none) = true) by simp)]
      first
        | exact wpAny_bind (wpAny_pure (wpAny_bind on))
        | exact wpAny_bind on
  · cases f with
    | next => exact let ⟨σ1, H1, J1, q⟩ := hsp; wpAny_execs_nil ⟨σ1, H1, J1.ofTry ok, q⟩
    | brk => exact let ⟨σ1, H1, J1, q⟩ := hsp; ⟨σ1, H1, J1.ofTry ok, q⟩
    | cont => exact let ⟨σ1, H1, J1, q⟩ := hsp; ⟨σ1, H1, J1.ofTry ok, q⟩
    | ret u => exact let ⟨v, σ1, H1, J1, r, q⟩ := hsp; ⟨v, σ1, H1, J1.ofTry ok, r, q⟩
end
end Bv

namespace Bv
open PySem PySem.Spec L2 PyProof.Rows

/-! ### errors as data -/
def excD (x : Xc) : D := .dict ((.none, .str x.cls) :: x.pay.map fun p => (.str p.1, p.2))
theorem XcR.rp {c : Cz} {mg : Str → Option Value} {H H' : Hp} {x : Xc} {cls : Value} {dx : Option Addr} {a C : Addr} (h : XcR c mg H x cls dx) (em : c.mg = mg) (ec : cls = .ref C) (hl : x.pay.length ≤ 1) (e : Gr H H') (ha : H' a = some (rawE a C dx)) : Rp c H' (.ref a) (excD x) := by
  obtain ⟨C', h1, h2, h3, h4⟩ := h
  rw [ec] at h2
  cases h2
  obtain ⟨n, p⟩ := x
  match p, hl with
  | [], _ =>
    have := h3 rfl
    subst this
    exact .exc0 ha (em ▸ h1)
  | [(f, d)], _ =>
    obtain ⟨dd, v, rfl, q1, q2⟩ := h4 f d [] rfl
    exact .exc1 ha (em ▸ h1) (e _ _ q1) (q2.gr e)
/-- try: .., except X as n: m = n; behind a caught one nothing else is known -/
def stry (N i j : Nat) (ok : Str → Option Bool) (f : Env' → Res) (ρ : Env') : Res := match f ρ with
  | .xc x => match ok x.cls with
    | some true => if x.pay.length ≤ 1 ∧ j < N then .nx ((List.replicate N Sl.un).set j (.fz (excD x))) else .un
    | some false => .xc x
    | none => .un
  | r => r
section
variable {S : Sx}
theorem At.tr {X : Cx} (hX : S.At X) {W : WX} {pn : List (Addr × Obj)} {xe : Value → Shared → Prop} (tk : Takes (X.tr pn xe) W) (ps : PassesOwn (model X.prog X.w) X.A X.env xe) : Sx.At { S with W := W } (X.tr pn xe) :=
  ⟨hX.hP, hX.hw, hX.hK, hX.hmg, hX.hb, hX.hN, hX.hsc, hX.nd, hX.calm, hX.gd, hX.hr, tk, hX.fnl, fun _ => ps, fun h => hX.body h⟩
theorem ss_try {i j : Nat} {x n m : Str} {C0 : Addr} {ok : Str → Option Bool} {f : Env' → Res} {body : List Stmt} {np p1 p2 p3 pos pos' : Pos} (hb : ∀ W : WX, SemSs { S with W := W } body f) (hx : S.mg x = some (.ref C0))
    (hok : ∀ cls b C, ok cls = some b → S.mg cls = some (.ref C) → PySem.W.exmOne S.K (.ref C) (.ref C0) = some b) (hi : S.N[i]? = some n := by rfl) (hin : S.sc.names.lookup n = some .local := by rfl) (hj : S.N[j]? = some m := by rfl) (hjm : S.sc.names.lookup m = some .local := by rfl) (hij : i ≠ j := by decide)
    (hg : S.sc.names.lookup x = some .globalImplicit := by rfl) (hdb : (x == ("__debug__" : Str)) = false := by decide) (hnd : (n == ("__debug__" : Str)) = false := by decide) (hncd : (n == ("__classdict__" : Str)) = false := by decide) (hdf : S.df = true := by rfl) :
    SemS S (.Try body [.ExceptHandler (some (.Name x np)) (some n) [.Assign [.Name m p1] (.Name n p2) p3] pos'] [] [] pos) (stry S.N.length i j ok f) := by
  have hb' : ∀ W : WX, ∃ t, (∀ X, Sx.At { S with W := W } X → PSs X body t) ∧ TellsS { S with W := W } t f := fun W => (hb W).ex
  refine ⟨⟨fun Dn σ H => (Classical.choose (hb' (wKeep S.K S.N.length (.ref C0) i j S.W Dn))) Dn σ H, fun X hX => ?_, fun ρ F H0 Z σ H Dn k h => ?_⟩⟩
  · obtain ⟨b1, b2, b3⟩ := hX.body hdf
    have := ps_tryK (X := X) (x := x) (n := n) (m := m) (c := .ref C0) (i := i) (j := j) (body := body) (np := np) (p1 := p1) (p2 := p2) (p3 := p3) (pos := pos) (pos' := pos') (tb := fun W => Classical.choose (hb' W)) (Wo := S.W) b1 b2 b3 hX.nd (by rw [hX.hN]; exact hi)
      (by show X.env.scope.names.lookup n = _; rw [hX.hsc]; exact hin) (by rw [hX.hN]; exact hj) (by rw [hX.hsc]; exact hjm) hij ⟨by show X.env.scope.names.lookup x = _; rw [hX.hsc]; exact hg, hdb, .inl (by rw [hX.hmg]; exact hx)⟩ hX.tk hnd hncd
      (fun W pn xe tk ps => (Classical.choose_spec (hb' W)).1 _ (At.tr hX tk ps))
    rw [hX.hK, hX.hN] at this
    exact this
  · refine (Classical.choose_spec (hb' (wKeep S.K S.N.length (.ref C0) i j S.W Dn))).2 ρ F H0 Z σ H Dn k ?_
    unfold stry at h
    cases ef : f ρ with
    | un => rw [ef] at h; exact h
    | nx ρ' => rw [ef] at h; exact h
    | rt d => rw [ef] at h; exact h
    | bk ρ' => rw [ef] at h; exact h
    | ct ρ' => rw [ef] at h; exact h
    | xc x' =>
      rw [ef] at h
      have h : PostS S F H0 Z Dn (match ok x'.cls with | some true => if x'.pay.length ≤ 1 ∧ j < S.N.length then .nx ((List.replicate S.N.length Sl.un).set j (.fz (excD x'))) else .un | some false => .xc x' | none => .un) := h
      intro cls dx σ1 H1 e1 e2 r
      obtain ⟨C, m1, m2, _⟩ := id r
      cases eo : ok x'.cls with
      | none => rw [eo] at h; exact False.elim h
      | some b =>
        rw [eo] at h
        refine ⟨b, by rw [m2]; exact hok _ _ _ eo m1, fun hb1 => ⟨C, m2, fun a na hl => ?_⟩, fun hb1 => ?_⟩
        · subst hb1
          dsimp only at h
          split at h
          · rename_i hp
            obtain ⟨o0, k0⟩ := k
            have z1 : In Z H1 := k0.zin.gr e1
            have na' : ¬ Z a := z1.not na
            have noown : ∀ (l n : Nat) (d : D), ((List.replicate S.N.length Sl.un).set j (.fz (excD x')))[l]? ≠ some (.ow n d) := fun l n d q => by
              by_cases hjl : j = l
              · subst hjl
                rw [List.getElem?_set_self (by simp [hp.2])] at q
                cases q
              · rw [List.getElem?_set_ne hjl, List.getElem?_replicate] at q
                split at q <;> cases q
            have hzz : ∀ b, hz Z ((List.replicate S.N.length Sl.un).set j (.fz (excD x'))) (fun _ => []) [] b → Z b := fun b q => q.elim id fun ⟨l, n, d, q1, _⟩ => absurd q1 (noown l n d)
            have gr2 : Gr (hid H1 Z) (hid (upd H1 a (rawE a C dx)) (hz Z ((List.replicate S.N.length Sl.un).set j (.fz (excD x'))) (fun _ => []) [])) := (Gr.new na).hid2 hzz
            refine h _ _ ⟨fun _ => [], ⟨by simp [hl], fun l d q => ?_, fun l n d q => absurd q (noown l n d), fun l l2 n n2 d d2 q => absurd q (noown l n d), e1.trans (Gr.new na), e2.trans gr2, k0.zin⟩⟩
            have hjl : j = l := by
              by_cases hjl : j = l
              · exact hjl
              · rw [List.getElem?_set_ne hjl, List.getElem?_replicate] at q
                split at q <;> cases q
            subst hjl
            rw [List.getElem?_set_self (by simp [hp.2])] at q
            cases q
            refine ⟨.ref a, by rw [List.getElem?_set_ne hij, List.getElem?_set_self (by simp [hl, hp.2])], r.rp rfl m2 hp.1 gr2 ?_⟩
            rw [hid_no fun q => na' (hzz a q), upd_same]
          · exact False.elim h
        · subst hb1
          exact h cls dx σ1 H1 e1 e2 r

/-! ### isinstance of a caught error; its field -/
/-- what a class must say, so that its instances are asked rightly -/
structure ExcK (K : PySem.W.Frag) (C : Addr) : Prop where
  cl : (PySem.W.clsIn K C).isSome = true
  ga : PySem.W.findIn K (.ref C) "__getattribute__" = some (some (.builtin "BaseException.__getattribute__"))
  gt : PySem.W.findIn K (.ref C) "__getattr__" = some none
  sb : PySem.W.subIn K (.ref C) (.type "BaseException") = some true
  hc : PySem.W.findIn K (.ref C) "__class__" = some (some (.builtin "object.__class__"))
  sp : PySem.W.specialIn K (.builtin "object.__class__") "__get__" = some (some (.builtin "getset_descriptor.__get__"))
  tk : PySem.W.takesIn K (.builtin "object.__class__") = some true
  mr : PySem.W.mroIn K C (.type "object") = some true
  hd : PySem.W.hasDictIn K C = true
/-- an error as data, tracked: what it stands for in the heap -/
theorem exc_inst {X : Cx} {pins : List (Addr × Obj)} {σ : L2.St} {H : Hp} {s : Shared} {a C : Addr} {dx : Option Addr} (I : Inv X pins σ H s) (ha : H a = some (rawE a C dx)) (hd : dx = none ∨ ∃ dd fs, dx = some dd ∧ H dd = some (.xd fs)) :
    ∃ oe od, PySem.W.InstAt s.heap a oe C od ∧ ∀ dd fs, dx = some dd → H dd = some (.xd fs) → ∃ (o : Obj) (mA : Str → Option Value), od = some o ∧ (∀ name, PySem.W.lookIn name o = some (mA name)) ∧ ∀ f, RelO (fs.lookup f) (mA f) := by
  obtain ⟨oe, vs, e1, e2, e3⟩ := rawE_at I.hok ha
  have nc : PySem.W.notCls oe := by unfold PySem.W.notCls; rw [e3] <;> rfl
  rcases hd with rfl | ⟨dd, fs, rfl, hx⟩
  · exact ⟨oe, none, ⟨e1, e2.1, nc, by rw [e2.2]; trivial⟩, fun _ _ z => by cases z⟩
  · obtain ⟨mA, hns, hr⟩ := (show ObjOk X.prog X.w H s.heap dd (.xd fs) from I.hok dd _ hx)
    obtain ⟨od, ho, hl⟩ := lookIn_ns hns
    refine ⟨oe, some od, ⟨e1, e2.1, nc, by rw [e2.2]; exact ho⟩, fun d2 f2 q1 q2 => ?_⟩
    cases q1
    rw [hx] at q2
    cases q2
    exact ⟨od, mA, rfl, hl, hr⟩
def rIsX (K : PySem.W.Frag) : List V → Hp → VK → Prop := fun xs H Q => ∃ (a C : Addr) (dx : Option Addr) (c : V) (cv : Value) (b : Bool), xs = [.ref a, c] ∧ ClsV c cv ∧ H a = some (rawE a C dx) ∧ (dx = none ∨ ∃ dd fs, dx = some dd ∧ H dd = some (.xd fs)) ∧ ExcK K C ∧ PySem.W.kitOne K (.ref C) cv = some b ∧ Q (.bl b) H
def rIsXT (K : PySem.W.Frag) : List V → Hp → VK → Prop := fun xs H Q => ∃ (a C tp : Addr) (dx : Option Addr) (cs : List V) (us : List Value) (b : Bool), xs = [.ref a, .ref tp] ∧ H tp = some (.tup cs) ∧ Paired ClsV cs us ∧ H a = some (rawE a C dx) ∧ (dx = none ∨ ∃ dd fs, dx = some dd ∧ H dd = some (.xd fs)) ∧ ExcK K C ∧
  PySem.W.kitAny K (.ref C) us = some b ∧ Q (.bl b) H
theorem call_isX {X : Cx} : CallR X (.builtin "isinstance") (rIsX X.K) := by
  intro pins s σ H xs us Q I r h
  obtain ⟨a, C, dx, c, cv, b, rfl, k, ha, hd, T, e, q⟩ := h
  obtain ⟨u1, u2, rfl, r1, r2⟩ := vals2 r
  have e2 := k.eq r2
  subst e2
  obtain rfl : u1 = Value.ref a := r1
  obtain ⟨oe, od, J, _⟩ := exc_inst I ha hd
  exact PySem.W.kia_one (PySem.W.kitx_exc T.cl T.ga T.gt T.sb T.hc T.sp T.tk T.mr) I.kIn J e (fun z => nomatch z) fun tk => ⟨.bl b, H, I.tok tk, rfl, q⟩
theorem call_isXT {X : Cx} : CallR X (.builtin "isinstance") (rIsXT X.K) := by
  intro pins s σ H xs us Q I r h
  obtain ⟨a, C, tp, dx, cs, ws, b, rfl, hT, k, ha, hd, T, e, q⟩ := h
  obtain ⟨u1, u2, rfl, r1, r2⟩ := vals2 r
  cases (show u2 = Value.ref tp from r2)
  obtain rfl : u1 = Value.ref a := r1
  obtain ⟨oe, od, J, _⟩ := exc_inst I ha hd
  obtain ⟨_, its, rv, o, h1, h2, n, h3⟩ := (show ObjOk X.prog X.w H s.heap tp (.tup cs) from I.hok tp _ hT)
  have e3 := ClsV.all k rv
  subst e3
  obtain ⟨oc, od', dt, sl⟩ := o
  simp only at h2 h3
  subst h2 h3
  exact PySem.W.kia_tup (PySem.W.kitx_exc T.cl T.ga T.gt T.sb T.hc T.sp T.tk T.mr) I.kIn J h1 e (fun z => nomatch z) fun tk => ⟨.bl b, H, I.tok tk, rfl, q⟩
/-- the answers, by the error's class -/
def isX (tbl : List (Str × Bool)) : D → Rv D
  | .dict ((.none, .str cls) :: _) => match tbl.lookup cls with | some b => .ok (.bool b) | none => .un
  | _ => .un
def isx (tbl : List (Str × Bool)) (f : Vw → Rv D) (η : Vw) : Rv D := (f η).bind (isX tbl)
/-- a class named -/
structure ClsN (T : Wd) (x : Str) (c : V) (cv : Value) : Prop where
  cl : ClsV c cv
  ok : T.mg x = some cv ∨ (T.mg x = none ∧ bootBuiltins x = some cv ∧ x ≠ "__name__")
theorem ClsN.pe {x : Str} {c : V} {cv : Value} (h : ClsN S.toWd x c cv) {X : Cx} (hX : S.At X) {p : Pos} (hg : S.sc.names.lookup x = some .globalImplicit) (hdb : (x == ("__debug__" : Str)) = false) : PE X (.Name x p) (tC c) := by
  have hg' : Gl X x := by show X.env.scope.names.lookup x = _; rw [hX.hsc]; exact hg
  have rl : RelV c cv := by cases h.cl <;> rfl
  rcases h.ok with h1 | ⟨h1, h2, h3⟩
  · exact pe_glob hg' (by rw [hX.hmg]; exact h1) rl hdb
  · exact pe_bltn hg' (by rw [hX.hmg]; exact h1) h2 rl h3 hdb
theorem Rp.excAt {c : Cz} {H : Hp} {v : V} {cls : Str} {ds : List (D × D)} (r : Rp c H v (.dict ((.none, .str cls) :: ds))) : ∃ a C dx, v = .ref a ∧ H a = some (rawE a C dx) ∧ c.mg cls = some (.ref C) ∧ (dx = none ∨ ∃ dd fs, dx = some dd ∧ H dd = some (.xd fs)) := by
  cases r with
  | exc0 h1 h2 => exact ⟨_, _, _, rfl, h1, h2, .inl rfl⟩
  | exc1 h1 h2 h3 h4 => exact ⟨_, _, _, rfl, h1, h2, .inr ⟨_, _, rfl, h3⟩⟩
theorem isX_at {d : D} {tbl : List (Str × Bool)} : isX tbl d = .un ∨ ∃ cls ds b, d = .dict ((.none, .str cls) :: ds) ∧ tbl.lookup cls = some b ∧ isX tbl d = .ok (.bool b) := by
  unfold isX
  split
  · rename_i cls ds
    cases e : tbl.lookup cls with
    | none => exact .inl rfl
    | some b => exact .inr ⟨cls, ds, b, rfl, e, rfl⟩
  · exact .inl rfl
theorem se_isX {x : Str} {c : V} {cv : Value} {tbl : List (Str × Bool)} {e : Expr} {f : Vw → Rv D} {p1 p2 pos : Pos} (hm : S.mg "isinstance" = none) (hN : ClsN S.toWd x c cv) (ht : ∀ cls b C, tbl.lookup cls = some b → S.mg cls = some (.ref C) → ExcK S.K C ∧ PySem.W.kitOne S.K (.ref C) cv = some b) (ha : SemE S e f)
    (hg : S.sc.names.lookup ("isinstance" : Str) = some .globalImplicit := by rfl) (hgx : S.sc.names.lookup x = some .globalImplicit := by rfl) (hxd : (x == ("__debug__" : Str)) = false := by decide) (hs : ∀ env, starEach [e, .Name x p2] env = (false, eval e env) :: starEach [.Name x p2] env := by intro _; rfl)
    (hs2 : ∀ env, starEach [.Name x p2] env = (false, eval (.Name x p2) env) :: starEach [] env := by intro _; rfl) (hpl : ∀ env, (backTo pos (starEach [.Name x p2] env)).any (·.1) = false := by intro _; rfl) : SemE S (.Call (.Name "isinstance" p1) [e, .Name x p2] [] pos) (isx tbl f) := by
  obtain ⟨t, pa, qa⟩ := ha.ex
  refine ⟨⟨tCB (rIsX S.K) (tCons t (tCons (tC c) tNil)), fun X hX => ?_, fun η σ H Z Q z hη h => ?_⟩⟩
  · rw [← hX.hK]
    exact pe_callB call_isX (by show X.env.scope.names.lookup ("isinstance" : Str) = _; rw [hX.hsc]; exact hg) (by rw [hX.hmg]; exact hm) (by decide +kernel) (pa_cons (pa X hX) (pa_cons (hN.pe hX hgx hxd) pa_nil (hs2 _)) (hs _)) (by decide) (by decide) (hs _) (hpl _)
  · refine qa η σ H Z _ z hη (Post.bind h fun d v H1 _ e1 r1 h1 => ?_)
    rcases isX_at (d := d) (tbl := tbl) with e0 | ⟨cls, ds, b, rfl, e2, e3⟩
    · rw [e0] at h1; exact False.elim h1
    · rw [e3] at h1
      obtain ⟨a, C, dx, rfl, q1, q2, q3⟩ := (r1.gr (Gr.hid_le H1 Z)).excAt
      obtain ⟨k1, k2⟩ := ht _ _ _ e2 q2
      exact ⟨a, C, dx, c, cv, b, rfl, hN.cl, q1, q3, k1, k2, Post.ok (R := RE S) h1 (.bl b)⟩
/-- names of classes in a tuple -/
inductive ClsNs (T : Wd) : List Expr → List V → List Value → Prop
  | nil : ClsNs T [] [] []
  | cons {x : Str} {p : Pos} {es : List Expr} {c : V} {cs : List V} {cv : Value} {cvs : List Value} : ClsN T x c cv → ClsNs T es cs cvs → ClsNs T (.Name x p :: es) (c :: cs) (cv :: cvs)
def tCs : List V → TA
  | [] => tNil
  | c :: cs => tCons (tC c) (tCs cs)
theorem ClsNs.pa {es : List Expr} {cs : List V} {cvs : List Value} (h : ClsNs S.toWd es cs cvs) {X : Cx} (hX : S.At X) : (∀ x p, Expr.Name x p ∈ es → S.sc.names.lookup x = some .globalImplicit ∧ (x == ("__debug__" : Str)) = false) → (∀ x p r, (Expr.Name x p :: r) <:+ es → starEach (.Name x p :: r) X.env = (false, eval (.Name x p) X.env) :: starEach r X.env) → PA X es (tCs cs) := by
  induction h with
  | nil => intro _ _; exact pa_nil
  | @cons x p es c cs cv cvs h1 h2 ih =>
    intro hg hs
    obtain ⟨g1, g2⟩ := hg x p List.mem_cons_self
    exact pa_cons (h1.pe hX g1 g2) (ih (fun y q hy => hg y q (List.mem_cons_of_mem _ hy)) (fun y q r hr => hs y q r (hr.trans (List.suffix_cons _ _)))) (hs x p es (List.suffix_refl _))
theorem ClsNs.cv {T : Wd} {es : List Expr} {cs : List V} {cvs : List Value} (h : ClsNs T es cs cvs) : Paired ClsV cs cvs := by
  induction h with
  | nil => exact .nil
  | cons h1 _ ih => exact .cons h1.cl ih
theorem tCs_run {cs : List V} : ∀ {σ : L2.St} {H : Hp} {Q : List V → Hp → Prop}, Q cs H → tCs cs σ H Q := by
  induction cs with
  | nil => intro σ H Q h; exact h
  | cons c cs ih => intro σ H Q h; exact ih (Q := fun ys H' => Q (c :: ys) H') h
theorem se_isXT {es : List Expr} {cs : List V} {cvs : List Value} {tbl : List (Str × Bool)} {e : Expr} {f : Vw → Rv D} {k1 : Nat} {p1 p2 pos : Pos} (hm : S.mg "isinstance" = none) (hN : ClsNs S.toWd es cs cvs) (ht : ∀ cls b C, tbl.lookup cls = some b → S.mg cls = some (.ref C) → ExcK S.K C ∧ PySem.W.kitAny S.K (.ref C) cvs = some b) (ha : SemE S e f)
    (hgs : ∀ x p, Expr.Name x p ∈ es → S.sc.names.lookup x = some .globalImplicit ∧ (x == ("__debug__" : Str)) = false) (hss : ∀ env x p r, (Expr.Name x p :: r) <:+ es → starEach (.Name x p :: r) env = (false, eval (.Name x p) env) :: starEach r env) (hl : cs.length ≤ 1000)
    (hg : S.sc.names.lookup ("isinstance" : Str) = some .globalImplicit := by rfl) (hs : ∀ env, starEach [e, .Tuple es k1 p2] env = (false, eval e env) :: starEach [.Tuple es k1 p2] env := by intro _; rfl)
    (hs2 : ∀ env, starEach [.Tuple es k1 p2] env = (false, eval (.Tuple es k1 p2) env) :: starEach [] env := by intro _; rfl) (hpl : ∀ env, (backTo pos (starEach [.Tuple es k1 p2] env)).any (·.1) = false := by intro _; rfl) : SemE S (.Call (.Name "isinstance" p1) [e, .Tuple es k1 p2] [] pos) (isx tbl f) := by
  obtain ⟨t, pa, qa⟩ := ha.ex
  refine ⟨⟨tCB (rIsXT S.K) (tCons t (tCons (tTup (tCs cs)) tNil)), fun X hX => ?_, fun η σ H Z Q z hη h => ?_⟩⟩
  · rw [← hX.hK]
    exact pe_callB call_isXT (by show X.env.scope.names.lookup ("isinstance" : Str) = _; rw [hX.hsc]; exact hg) (by rw [hX.hmg]; exact hm) (by decide +kernel) (pa_cons (pa X hX) (pa_cons (pe_tup (hN.pa hX hgs (fun x p r => hss _ x p r))) pa_nil (hs2 _)) (hs _)) (by decide) (by decide) (hs _) (hpl _)
  · refine qa η σ H Z _ z hη (Post.bind h fun d v H1 _ e1 r1 h1 => ?_)
    rcases isX_at (d := d) (tbl := tbl) with e0 | ⟨cls, ds, b, rfl, e2, e3⟩
    · rw [e0] at h1; exact False.elim h1
    · rw [e3] at h1
      obtain ⟨a, C, dx, rfl, q1, q2, q3⟩ := (r1.gr (Gr.hid_le H1 Z)).excAt
      obtain ⟨k1, k2⟩ := ht _ _ _ e2 q2
      refine tCs_run ⟨line_ge (by omega), fun p hp => ?_⟩
      refine ⟨a, C, p, dx, cs, cvs, b, rfl, upd_same, hN.cv, (Gr.new hp) _ _ q1, q3.imp id (fun ⟨dd, fs, z1, z2⟩ => ⟨dd, fs, z1, (Gr.new hp) _ _ z2⟩), k1, k2, ?_⟩
      exact Post.ok (R := RE S) (h1.gr (Gr.new hp)) (.bl b)
/-- e.f of an error of the class c0 -/
def xfD (c0 f : Str) : D → Rv D
  | .dict [(.none, .str c), (.str g, d)] => if c = c0 ∧ g = f then .ok d else .un
  | _ => .un
def xfl (c0 n : Str) (f : Vw → Rv D) (η : Vw) : Rv D := (f η).bind (xfD c0 n)
theorem xfD_at {c0 n : Str} {d : D} : xfD c0 n d = .un ∨ ∃ y, d = .dict [(.none, .str c0), (.str n, y)] ∧ xfD c0 n d = .ok y := by
  unfold xfD
  split
  · rename_i cls g y
    by_cases e : cls = c0 ∧ g = n
    · obtain ⟨rfl, rfl⟩ := e
      exact .inr ⟨y, rfl, if_pos ⟨rfl, rfl⟩⟩
    · exact .inl (if_neg e)
  · exact .inl rfl
def tXfl (K : PySem.W.Frag) (n : Str) (te : TE) : TE := fun σ H Q => te σ H fun x H1 => ∃ (a C dd : Addr) (v : V), x = .ref a ∧ H1 a = some (rawE a C (some dd)) ∧ H1 dd = some (.xd [(n, v)]) ∧ ExcK K C ∧ PySem.W.findIn K (.ref C) n = some none ∧ Q v H1
theorem pe_xfl {X : Cx} {e : Expr} {te : TE} {pos : Pos} {n : Str} (he : PE X e te) (hb : attributeBase e n X.env (eval e X.env) = eval e X.env) : PE X (.Attribute e n pos) (tXfl X.K n te) := by
  refine ⟨fun pins s σ H Q I h => ?_⟩
  refine attr_of hb (thn (he.run pins s σ H _ I h) fun u s1 ⟨x, H1, I1, rx, a, C, dd, v, ex, ha, hx, T, hno, q⟩ => ?_)
  subst ex
  obtain rfl : u = Value.ref a := rx
  obtain ⟨oe, od, J, hj⟩ := exc_inst I1 ha (.inr ⟨dd, _, rfl, hx⟩)
  obtain ⟨o, mA, rfl, hl, hr⟩ := hj dd _ rfl hx
  obtain ⟨u, hu, ru⟩ := RelO.some_of (v := v) (o := mA n) (by have := hr n; rw [show List.lookup n [(n, v)] = some v by simp] at this; exact this)
  exact HandSPX.exc_get I1.kIn J T.ga T.gt T.sb (PySem.W.findObj_own T.hd hno rfl (by rw [hl, hu])) (handed_of ru) ⟨v, H1, I1.tok _, ru, q⟩
theorem se_xfl {e : Expr} {f : Vw → Rv D} {pos : Pos} {c0 n : Str} (ha : SemE S e f) (ht : ∀ C, S.mg c0 = some (.ref C) → ExcK S.K C ∧ PySem.W.findIn S.K (.ref C) n = some none) (hb : ∀ env, attributeBase e n env (eval e env) = eval e env := by intro _; rfl) : SemE S (.Attribute e n pos) (xfl c0 n f) := by
  obtain ⟨t, pa, qa⟩ := ha.ex
  refine ⟨⟨tXfl S.K n t, fun X hX => ?_, fun η σ H Z Q z hη h => ?_⟩⟩
  · rw [← hX.hK]
    exact pe_xfl (pa X hX) (hb _)
  · refine qa η σ H Z _ z hη (Post.bind h fun d v H1 _ e1 r1 h1 => ?_)
    rcases xfD_at (c0 := c0) (n := n) (d := d) with e0 | ⟨y, rfl, e3⟩
    · rw [e0] at h1; exact False.elim h1
    · rw [e3] at h1
      cases r1 with
      | exc1 q1 q2 q3 q4 => exact ⟨_, _, _, _, rfl, (hid_some q1).2, (hid_some q3).2, (ht _ q2).1, (ht _ q2).2, Post.ok (R := RE S) h1 q4⟩
end
end Bv

namespace Bv
open PySem PySem.Spec L2 PyProof.Rows

/-! ### raise X('..'), X without an own __init__; raise X(e), X's own __init__ calls its base's and stores e -/
structure Rais0 (T : Wd) (x : Str) : Prop where
  ex : ∃ C : Addr, T.mg x = some (.ref C) ∧ PySem.W.excIn T.K C [.type "ValueError", .type "Exception", .type "BaseException", .type "object"] "ValueError.__new__" = true ∧ PySem.W.keepIn T.K (.ref C) = true ∧
    PySem.W.subIn T.K (.ref C) (.type "BaseException") = some true ∧ PySem.W.typeIn T.K (.ref C) = some (.type "type")
section
variable {S : Sx}
theorem ss_raise0 {x m : Str} {j} {p p2 pos pos2 : Pos} (R : Rais0 S.toWd x) (hg : S.sc.names.lookup x = some .globalImplicit := by rfl) (hdb : (x == ("__debug__" : Str)) = false := by decide) :
    SemS S (.Raise (some (.Call (.Name x p) [.Constant (.str m) j p2] [] pos)) none pos2) (fun _ => .xc ⟨x, []⟩) := by
  obtain ⟨C, r1, r2, r3, r4, r5⟩ := R.ex
  refine ⟨⟨fun _ σ H => S.W (.ref C) none σ H, fun X hX => ?_, fun ρ F H0 Z σ H Dn ⟨o, k⟩ h => ?_⟩⟩
  · exact ps_raise hX.calm hX.tk (pmk_own PySem.F.excBase_ValueError (by rw [hX.hK]; exact r2) (by rw [hX.hmg]; exact r1) (by rw [hX.hK]; exact r3) (raises_own (by rw [hX.hK]; exact r4) (by rw [hX.hK]; exact r5)) (by show X.env.scope.names.lookup x = _; rw [hX.hsc]; exact hg) hdb)
  · exact h (.ref C) none σ H k.gr (k.out (Gr.refl H)) ⟨C, r1, rfl, fun _ => rfl, fun _ _ _ q => nomatch q⟩
end
/-- what an own __init__ promises that calls its base's with a text and stores what it was given -/
def spI (K : PySem.W.Frag) (f : Str) : Sp := fun vs H Q _ => ∃ (a C : Addr) (v : V), vs = [.ref a, v] ∧ OexC K C ∧ PySem.W.findIn K (.ref C) f = some none ∧ H a = some (exo a C none) ∧ ∀ dx, H dx = none → dx ≠ a → Q .non (upd (upd H dx (exd dx [(f, v)])) a (exo a C (some dx)))
/-- B.__init__(self, ..), B an own class over ValueError without an own __init__ -/
theorem pe_finit {X : Cx} {B : Str} {CB : Addr} {mc : Value} {pl : Sem Bool} {e : Expr} {es : List Expr} {ta : TA} {p1 p2 pos : Pos} (hg : Gl X B) (hm : X.mg B = some (.ref CB)) (h1 : PySem.W.specialIn X.K (.ref CB) "__getattribute__" = some (some (.builtin "type.__getattribute__")))
    (h2 : PySem.W.readsIn X.K CB mc = true) (h3 : PySem.W.findCls X.K (.ref CB) mc "__init__" = some (.val (.builtin "ValueError.__init__"))) (ha : PA X (e :: es) ta) (hdb : (B == ("__debug__" : Str)) = false := by decide)
    (hc : eval (.Call (.Attribute (.Name B p1) "__init__" p2) (e :: es) [] pos) X.env = (do
      let o ← eval (.Name B p1) X.env
      standAt p2.atName
      let (g, one) ← holding [o] (getMethod o "__init__" pl)
      callWith pos g one (backTo pos (starEach (e :: es) X.env)) (backToKw pos (keywordEach [] X.env))) := by rfl)
    (he : starEach (e :: es) X.env = (false, eval e X.env) :: starEach es X.env := by rfl) (hpl : (backTo pos (starEach es X.env)).any (·.1) = false := by rfl) :
    PE X (.Call (.Attribute (.Name B p1) "__init__" p2) (e :: es) [] pos) (tVeI X.K ta) := by
  refine ⟨fun pins s σ H Q I h => PySem.W.methodCall_KW (ld_glob I hg hm ?_ hdb) hc⟩
  refine PySem.W.method_cls I.kIn h1 (PySem.W.cls_value I.kIn h2 h3 (by decide +kernel) ?_)
  show wpAny _ _ (callWith pos (Value.builtin "ValueError.__init__") [] (backTo pos (starEach (e :: es) X.env)) []) _ _ _
  refine PyProof.Rows.callWith_method1 (thn (ha.run pos pins _ σ H _ (I.tok _) h) fun us s1 ⟨vs, H1, I1, r1, a, C, ws, ev, hl, T, ea, q⟩ => ?_) he hpl
  subst ev
  cases r1 with
  | @cons _ u _ ur ra rr =>
    obtain rfl : u = Value.ref a := ra
    have hz : ur.length ≤ sizeLine := (Paired.length rr) ▸ Nat.le_trans hl (by rw [sizeLine_eq]; decide)
    exact oinit_ok T I1 ea hz fun s' J => ⟨.non, H1, J, rfl, q⟩
structure RaisI (T : Wd) (k : Nat) (x f : Str) : Prop where
  ex : ∃ (C fI : Addr) (fd : FuncData) (ps : List Str), T.mg x = some (.ref C) ∧ OexC T.K C ∧ PySem.W.findIn T.K (.ref C) "__init__" = some (some (.ref fI)) ∧ PySem.W.typeIn T.K (.ref fI) = some (.type "function") ∧ PySem.W.findIn T.K (.ref C) f = some none ∧
    FnOk T.P T.w T.K T.mg T.base CX0 k fI fd ps (spI T.K f) ∧ Binds T.K fd ps []
def rai (x f : Str) (g : Vw → Rv D) (ρ : Env') : Res := (g (vw [] ρ)).st fun d => .xc ⟨x, [(f, d)]⟩
section
variable {S : Sx}
theorem ss_raise1 {x f : Str} {k : Nat} {e : Expr} {g : Vw → Rv D} {p pos pos2 : Pos} (R : RaisI S.toWd k x f) (he : SemE S e g) (hk : Nat.ble (k + 1) S.k = true := by rfl) (hg : S.sc.names.lookup x = some .globalImplicit := by rfl) (hdb : (x == ("__debug__" : Str)) = false := by decide)
    (hs : ∀ env, starEach [e] env = (false, eval e env) :: starEach [] env := by intro _; rfl) (hpl : ∀ env, (backTo pos (starEach [] env)).any (·.1) = false := by intro _; rfl) :
    SemS S (.Raise (some (.Call (.Name x p) [e] [] pos)) none pos2) (rai x f g) := by
  obtain ⟨C, fI, fd, ps, r1, r2, r3, r4, r5, r6, r7⟩ := R.ex
  obtain ⟨t, pe, qe⟩ := he.ex
  refine ⟨⟨fun _ σ H => tMkO C (spI S.K f) [] (tCons t tNil) σ H fun cls d H' => S.W cls d σ H', fun X hX => ?_, fun ρ F H0 Z σ H Dn ⟨o, k⟩ h => ?_⟩⟩
  · refine ps_raise hX.calm hX.tk (pmk_oex (CX := CX0) (by rw [hX.hK]; exact r2) (by rw [hX.hK]; exact r3) (by rw [hX.hK]; exact r4) (by rw [hX.hP, hX.hw, hX.hK, hX.hmg, hX.hb]; exact r6) (hX.hr.mono (Nat.le_of_ble_eq_true hk)) (by rw [hX.hK]; exact r7) .nil pass0
      (by show X.env.scope.names.lookup x = _; rw [hX.hsc]; exact hg) (by rw [hX.hmg]; exact r1) (pa_cons (pe X hX) pa_nil (hs _)) hdb (hs _) (hpl _))
  · refine qe (vw [] ρ) σ H (hz Z ρ o []) _ k.hin k.view ?_
    unfold rai at h
    cases ef : g (vw [] ρ) with
    | un => rw [ef] at h; exact h
    | xc x' => rw [ef] at h; exact fun cls dx H' e q => h cls dx σ H' (k.gr.trans e) (k.out e) (q.gr ((Gr.refl H').hid2 fun a z => .inl z))
    | ok d =>
      rw [ef] at h
      intro v H1 e1 r
      refine ⟨by simp, fun a na => ⟨a, C, v, rfl, r2, r5, upd_same, fun dx nd hne => ⟨rfl, dx, [(f, v)], upd_same, by rw [upd_ne hne, upd_same], by rw [upd_ne hne] at nd; exact nd, ?_⟩⟩⟩
      rw [upd_ne hne] at nd
      have eH : upd (L2.del (upd (upd (upd H1 a (exo a C none)) dx (exd dx [(f, v)])) a (exo a C (some dx))) a) dx (.xd [(f, v)]) = upd H1 dx (.xd [(f, v)]) := by
        funext b
        by_cases hb : b = dx
        · subst hb; rw [upd_same, upd_same]
        · rw [upd_ne hb, upd_ne hb]
          by_cases hba : b = a
          · subst hba; rw [del_same, na]
          · rw [del_ne hba, upd_ne hba, upd_ne hb, upd_ne hba]
      rw [eH]
      have e2 : Gr H (upd H1 dx (.xd [(f, v)])) := e1.trans (Gr.new nd)
      refine h (.ref C) (some dx) σ _ (k.gr.trans e2) (k.out e2) ⟨C, r1, rfl, (fun q => by cases q), fun f' d' r' q => ?_⟩
      cases q
      have nz : ¬ Z dx := (k.zin.gr (k.gr.trans e1)).not nd
      refine ⟨dx, v, rfl, by rw [hid_no nz, upd_same], r.gr ?_⟩
      exact (Gr.new nd).hid2 fun b z => .inl z
end
end Bv
namespace Bv
open PySem PySem.Spec L2 PyProof.Rows
theorem tb_nil {mg : Str → Option Value} {P : Addr → Bool → Prop} : ∀ (cls : Str) (b : Bool) (C : Addr), ([] : List (Str × Bool)).lookup cls = some b → mg cls = some (.ref C) → P C b := fun _ _ _ h => by cases h
theorem tb_cons {mg : Str → Option Value} {P : Addr → Bool → Prop} {r : Str} {b : Bool} {tbl : List (Str × Bool)} (h : ∀ C, mg r = some (.ref C) → P C b) (t : ∀ cls b C, tbl.lookup cls = some b → mg cls = some (.ref C) → P C b) :
    ∀ (cls : Str) (b' : Bool) (C : Addr), ((r, b) :: tbl).lookup cls = some b' → mg cls = some (.ref C) → P C b' := fun cls b' C e q => by
  by_cases hc : cls = r
  · subst hc
    simp at e
    subst e
    exact h C q
  · rw [List.lookup_cons, show (cls == r) = false by simpa using hc] at e
    exact t cls b' C e q
theorem of_mg {mg : Str → Option Value} {r : Str} {C : Addr} {P : Addr → Prop} (h : mg r = some (.ref C)) (p : P C) : ∀ C', mg r = some (.ref C') → P C' := fun C' q => by
  rw [h] at q
  cases q
  exact p
theorem cls_hd {K : PySem.W.Frag} {C : Addr} (h : PySem.W.hasDictIn K C = true) : (PySem.W.clsIn K C).isSome = true := by
  obtain ⟨cd, q, _⟩ := PySem.W.any_some h
  rw [q]; rfl
end Bv

namespace Bv
open PySem PySem.Spec L2 PyProof.Rows

/-! ### dicts with tuples for keys -/
theorem dkey_nkey {d : D} {k : NestedKey} (h : dkey d = some k) : nkey d = some k ∧ k.depth ≤ 8 := by
  unfold dkey at h
  obtain ⟨k', e, h⟩ := Option.bind_eq_some_iff.mp h
  split at h
  · cases h; exact ⟨e, ‹_›⟩
  · cases h
section
variable {X : Cx} {pins : List (Addr × Obj)} {σ : L2.St} {H : Hp} {s : Shared}
mutual
theorem nested_of (I : Inv X pins σ H s) : ∀ {d : D} {v : V} {u : Value} {k : NestedKey}, Rp (cz X) H v d → RelV v u → nkey d = some k → NestedIs s.heap k u
  | .none, _, _, _, h, r, e => by cases h; cases e; cases (show _ = Value.none from r); exact .none
  | .bool b, _, _, _, h, r, e => by cases h; cases e; cases (show _ = Value.bool b from r); exact .bool rfl
  | .int i, _, _, _, h, r, e => by cases h; cases e; obtain ⟨t, rfl⟩ := r; exact .int i t
  | .str x, _, _, _, h, r, e => by cases h; cases e; obtain ⟨t, rfl⟩ := r; exact .text x t
  | .list _, _, _, _, _, _, e => by cases e
  | .dict _, _, _, _, _, _, e => by cases e
  | .tuple ds, _, _, _, h, r, e => by
    cases h with
    | @tup a xs _ h1 h2 =>
      cases (show _ = Value.ref a from r)
      have e : (nkeys ds).map NestedKey.tup = some _ := e
      obtain ⟨ks, e1, rfl⟩ := Option.map_eq_some_iff.mp e
      obtain ⟨its, rv, ⟨o, p1, p2, n, p3⟩, _⟩ := I.tuple h1
      exact .tup p1 p2 p3 (nesteds_of I h2 (by simpa using rv) e1)
theorem nesteds_of (I : Inv X pins σ H s) : ∀ {ds : List D} {vs : List V} {us : List Value} {ks : List NestedKey}, RpA (cz X) H vs ds → Vals vs us → nkeys ds = some ks → NestedAll s.heap ks us
  | [], _, _, _, h, r, e => by cases h; cases r; cases e; exact .nil
  | d :: ds, _, _, _, h, r, e => by
    cases h with
    | cons h1 h2 =>
      cases r with
      | cons r1 r2 =>
        have e : ((nkey d).bind fun k => (nkeys ds).map (k :: ·)) = some _ := e
        obtain ⟨k, e1, e2⟩ := Option.bind_eq_some_iff.mp e
        obtain ⟨ks, e3, rfl⟩ := Option.map_eq_some_iff.mp e2
        exact .cons (nested_of I h1 r1 e1) (nesteds_of I h2 r2 e3)
end
/-- a key, in the heap -/
theorem key_is (I : Inv X pins σ H s) {e : D} {b : Addr} {k : NestedKey} (h : Rp (cz X) H (.ref b) e) (q : dkey e = some k) : (nestedKind X.prog X.w).is s.heap k b :=
  ⟨nested_of I h rfl (dkey_nkey q).1, (dkey_nkey q).2⟩
theorem rawO_at {P : Program} {w : World} {H : Hp} {h : Heap} {a : Addr} {o : Obj} (hok : HOk P w H h) (he : H a = some (rawO a o)) : h.get? a = some o := by
  have x : ObjOk P w H h a (.ext fun h => h.get? a = some o) := hok a _ he
  exact x.1
theorem rawO_ok {P : Program} {w : World} {H : Hp} {h : Heap} {a : Addr} {o : Obj} (he : h.get? a = some o) : ObjOk P w H h a (rawO a o) :=
  ⟨he, ⟨o, he⟩, fun _ _ q k => k o q⟩
/-- the pairs, in values and in the model's words -/
abbrev EnR : NestedKey × Addr × V → NestedKey × Addr × Value → Prop := fun x u => x.1 = u.1 ∧ x.2.1 = u.2.1 ∧ RelV x.2.2 u.2.2
theorem keys_is (I : Inv X pins σ H s) : ∀ {xs : List (NestedKey × Addr × V)} {us : List (NestedKey × Addr × Value)} {ds : List (D × D)}, RpN (cz X) H xs ds → Paired EnR xs us → ∀ u ∈ us, (nestedKind X.prog X.w).is s.heap u.1 u.2.1
  | _, _, [], h, p, u, hu => by cases h; cases p; cases hu
  | _, _, (e, d) :: ds, h, p, u, hu => by
    cases h with
    | cons h1 h2 h3 h4 =>
      cases p with
      | cons q1 q2 =>
        rcases List.mem_cons.mp hu with rfl | hu
        · rw [← q1.1, ← q1.2.1]
          exact key_is I h1 h2
        · exact keys_is I h4 q2 u hu
theorem keys_eq {xs : List (NestedKey × Addr × V)} {us : List (NestedKey × Addr × Value)} (p : Paired EnR xs us) : us.map (·.1) = xs.map (·.1) := by
  induction p with
  | nil => rfl
  | cons h _ ih => rw [List.map_cons, List.map_cons, ih, h.1]
/-- the dict, as the model's rules have it -/
theorem dn_of {a : Addr} {o : Obj} {xs : List (NestedKey × Addr × V)} {ds : List (D × D)} (I : Inv X pins σ H s) (ha : H a = some (rawO a o)) (hn : DN (cz X) a o xs) (hr : RpN (cz X) H xs ds) :
    ∃ us, Paired EnR xs us ∧ s.heap.DictOfH (nestedKind X.prog X.w) a us := by
  obtain ⟨es, ep, us, h1, h2, h3⟩ := hn.en
  exact ⟨us, h2, o, es, ep, rawO_at I.hok ha, hn.ed, h1, h3, keys_is I hr h2, by rw [keys_eq h2]; exact hn.nd⟩
end
def lookX (xs : List (NestedKey × Addr × V)) (k : NestedKey) : Option V := (xs.find? fun x => decide (x.1 = k)).map (·.2.2)
/-- d[k], of data -/
def lookD (ds : List (D × D)) (k : NestedKey) : Option D := (ds.find? fun p => decide (dkey p.1 = some k)).map (·.2)
theorem lookX_rel {xs : List (NestedKey × Addr × V)} {us : List (NestedKey × Addr × Value)} (p : Paired EnR xs us) (k : NestedKey) : RelO (lookX xs k) ((atKey us k).map (·.2)) := by
  induction p with
  | nil => exact True.intro
  | @cons x u xs us h _ ih =>
    unfold lookX atKey at *
    rw [List.find?_cons, List.find?_cons, ← h.1]
    by_cases e : x.1 = k
    · simp only [e, decide_true, Option.map_some]
      exact h.2.2
    · simp only [e, decide_false]
      exact ih
theorem lookX_D {c : Cz} {H : Hp} : ∀ {ds : List (D × D)} {xs : List (NestedKey × Addr × V)}, RpN c H xs ds → ∀ k, match lookD ds k with | none => lookX xs k = none | some d => ∃ v, lookX xs k = some v ∧ Rp c H v d
  | [], _, h, k => by cases h; rfl
  | (e, d) :: ds, _, h, k => by
    cases h with
    | @cons k' b v vs _ _ _ h1 h2 h3 h4 =>
      unfold lookD lookX
      rw [List.find?_cons, List.find?_cons]
      by_cases q : k' = k
      · subst q
        simp only [h2, decide_true, Option.map_some]
        exact ⟨v, rfl, h3⟩
      · simp only [h2, Option.some.injEq, q, decide_false]
        exact lookX_D h4 k
theorem lookX_some {c : Cz} {H : Hp} {ds : List (D × D)} {xs : List (NestedKey × Addr × V)} (h : RpN c H xs ds) (k : NestedKey) : (lookD ds k).isSome = (lookX xs k).isSome := by
  have := lookX_D h k
  cases e : lookD ds k with
  | none => rw [e] at this; dsimp only at this; rw [this]; rfl
  | some d => rw [e] at this; obtain ⟨v, q, _⟩ := this; rw [q]; rfl
section
variable {X : Cx}
/-- k in d, k not in d (tuples for keys) -/
def rInN (c : Cz) (neg : Bool) : R2 := fun x y H Q => ∃ (a b : Addr) (o : Obj) (xs : List (NestedKey × Addr × V)) (ds : List (D × D)) (e : D) (k : NestedKey), x = .ref b ∧ y = .ref a ∧ H a = some (rawO a o) ∧ DN c a o xs ∧ RpN c H xs ds ∧ Rp c H (.ref b) e ∧ dkey e = some k ∧ Q (.bl ((lookX xs k).isSome != neg)) H
theorem room_in1 {X : Cx} (h : X.A.units + 65 < cLine) : (nestedKind X.prog X.w).room X.A.in1 := by
  show X.A.units + 1 + 8 < cLine
  omega
theorem op_inN (hu : X.A.units + 65 < cLine) : OpR X (compareOp .In) (rInN (cz X) false) := by
  intro pins s σ H x y v u Q I rx ry h
  obtain ⟨a, b, o, xs, ds, e, k, rfl, rfl, ha, hn, hr, he, hk, q⟩ := h
  obtain rfl : v = Value.ref b := rx
  obtain rfl : u = Value.ref a := ry
  obtain ⟨us, p, dd⟩ := dn_of I ha hn hr
  refine wpAny_in_heap (room_in1 hu) (key_is I he hk) hn.sm dd ⟨.bl (atKey us k).isSome, H, I.tok _, rfl, ?_⟩
  have := (lookX_rel p k).isSome_eq
  rw [Option.isSome_map] at this
  rw [← this]
  simpa using q
theorem op_notInN (hu : X.A.units + 65 < cLine) : OpR X (compareOp .NotIn) (rInN (cz X) true) := by
  intro pins s σ H x y v u Q I rx ry h
  obtain ⟨a, b, o, xs, ds, e, k, rfl, rfl, ha, hn, hr, he, hk, q⟩ := h
  obtain rfl : v = Value.ref b := rx
  obtain rfl : u = Value.ref a := ry
  obtain ⟨us, p, dd⟩ := dn_of I ha hn hr
  refine wpAny_notIn_heap (room_in1 hu) (key_is I he hk) hn.sm dd ⟨.bl (!(atKey us k).isSome), H, I.tok _, rfl, ?_⟩
  have := (lookX_rel p k).isSome_eq
  rw [Option.isSome_map] at this
  rw [← this]
  simpa using q
/-- d[k] (tuples for keys) -/
def rGetN (c : Cz) : V → V → Hp → VK → Prop := fun x y H Q => ∃ (a b : Addr) (o : Obj) (xs : List (NestedKey × Addr × V)) (ds : List (D × D)) (e : D) (k : NestedKey) (v : V), x = .ref a ∧ y = .ref b ∧ H a = some (rawO a o) ∧ DN c a o xs ∧ RpN c H xs ds ∧ Rp c H (.ref b) e ∧ dkey e = some k ∧ lookX xs k = some v ∧ Q v H
def tGetN (c : Cz) (td ty : TE) : TE := fun σ H Q => td σ H fun x H1 => ty σ H1 fun y H2 => rGetN c x y H2 Q
theorem pe_getN {o i : Expr} {td ty : TE} {pos : Pos} (hu : X.A.units + 65 < cLine) (ho : PE X o td) (hi : PE X i ty) (hs : NoSl i) : PE X (.Subscript o i pos) (tGetN (cz X) td ty) := by
  refine ⟨fun pins s σ H Q I h => ?_⟩
  refine subD_of PySem.F.slot_dict_getitem.lookup hs (thn (ho.run pins s σ H _ I h) fun u s1 ⟨x, H1, I1, rx, q1⟩ => thn (hi.run pins s1 σ H1 _ I1 q1) fun iv s2 ⟨y, H2, I2, ry, a, b, ob, xs, ds, e, k, v, ex, ey, ha, hn, hr, he, hk, hv, q⟩ => ?_)
  subst ex ey
  obtain rfl : u = Value.ref a := rx
  obtain rfl : iv = Value.ref b := ry
  obtain ⟨us, p, dd⟩ := dn_of I2 ha hn hr
  obtain ⟨uv, hq, ru⟩ := RelO.some_of (v := v) (o := (atKey us k).map (·.2)) (by rw [← hv]; exact lookX_rel p k)
  obtain ⟨pp, e1, e2⟩ := Option.map_eq_some_iff.mp hq
  refine ⟨dd.typeIs, wpAny_getItem_heap (room_in1 hu) (key_is I2 he hk) dd e1 ⟨v, H2, I2.tok _, ?_, q⟩⟩
  rw [e2]; exact ru
end
/-! stores -/
def storeX (xs : List (NestedKey × Addr × V)) (k : NestedKey) (b : Addr) (v : V) : List (NestedKey × Addr × V) := if (lookX xs k).isSome = true then xs.map (fun x => if x.1 = k then (x.1, x.2.1, v) else x) else xs ++ [(k, b, v)]
/-- d[k] = v, of data -/
def storeD (ds : List (D × D)) (k : NestedKey) (e v : D) : List (D × D) := if (lookD ds k).isSome = true then ds.map (fun p => if dkey p.1 = some k then (p.1, v) else p) else ds ++ [(e, v)]
theorem storeX_rel {xs : List (NestedKey × Addr × V)} {us : List (NestedKey × Addr × Value)} (p : Paired EnR xs us) {k : NestedKey} {b : Addr} {v : V} {u : Value} (r : RelV v u) : Paired EnR (storeX xs k b v) (storedH us k b u) := by
  have e := (lookX_rel p k).isSome_eq
  rw [Option.isSome_map] at e
  unfold storeX storedH
  rw [← e]
  split
  · rename_i z; clear z e
    induction p with
    | nil => exact .nil
    | @cons x y xs us h _ ih =>
      rw [List.map_cons, List.map_cons]
      refine .cons ?_ ih
      unfold putAt
      rw [← h.1]
      split
      · exact ⟨rfl, h.2.1, r⟩
      · exact h
  · rename_i z; clear z e
    induction p with
    | nil => exact .cons ⟨rfl, rfl, r⟩ .nil
    | cons h _ ih => exact .cons h ih
theorem storeX_len (xs : List (NestedKey × Addr × V)) (k : NestedKey) (b : Addr) (v : V) : (storeX xs k b v).length ≤ xs.length + 1 := by
  unfold storeX
  split <;> simp
theorem storeX_nd {xs : List (NestedKey × Addr × V)} (h : (xs.map (·.1)).Nodup) (k : NestedKey) (b : Addr) (v : V) : ((storeX xs k b v).map (·.1)).Nodup := by
  unfold storeX
  split
  · rw [List.map_map]
    have : ((fun x : NestedKey × Addr × V => x.1) ∘ fun x => if x.1 = k then (x.1, x.2.1, v) else x) = fun x => x.1 := by
      funext x
      dsimp only [Function.comp]
      split <;> rfl
    rw [this]
    exact h
  · rename_i hn
    rw [List.map_append, List.map_cons, List.map_nil, List.nodup_append]
    refine ⟨h, by simp, fun y hy z hz => ?_⟩
    rw [List.mem_singleton.mp hz]
    rintro rfl
    refine hn ?_
    obtain ⟨x, hx, e⟩ := List.mem_map.mp hy
    unfold lookX
    rw [Option.isSome_map, List.find?_isSome]
    exact ⟨x, hx, by simpa using e⟩
theorem storeX_rp {c : Cz} {H : Hp} {ds : List (D × D)} {xs : List (NestedKey × Addr × V)} (h : RpN c H xs ds) {k : NestedKey} {b : Addr} {v : V} {e d : D} (he : Rp c H (.ref b) e) (hk : dkey e = some k) (hv : Rp c H v d) : RpN c H (storeX xs k b v) (storeD ds k e d) := by
  have q := lookX_some h k
  unfold storeX storeD
  rw [q]
  split
  · rename_i z; clear z q
    induction ds generalizing xs with
    | nil => cases h; exact .nil
    | cons p ds ih =>
      obtain ⟨e', d'⟩ := p
      cases h with
      | @cons k' b' v' vs _ _ _ h1 h2 h3 h4 =>
        rw [List.map_cons, List.map_cons]
        by_cases e1 : k' = k
        · subst e1
          rw [if_pos rfl, if_pos h2]
          exact .cons h1 h2 hv (ih h4)
        · rw [if_neg e1, if_neg (by rw [h2]; simpa using e1)]
          exact .cons h1 h2 h3 (ih h4)
  · rename_i z; clear z q
    induction ds generalizing xs with
    | nil => cases h; exact .cons he hk hv .nil
    | cons p ds ih =>
      cases h with
      | cons h1 h2 h3 h4 => exact .cons h1 h2 h3 (ih h4)
end Bv

namespace Bv
open PySem PySem.Spec L2 PyProof.Rows

/-! ### dicts, of data -/
def keyK : D → Option Key
  | .int i => some (.inl i)
  | .str x => some (.inr x)
  | _ => none
theorem keyK_kD {e : D} {k : Key} (h : keyK e = some k) : e = kD k := by
  unfold keyK at h
  split at h <;> cases h <;> rfl
theorem kD_keyK (k : Key) : keyK (kD k) = some k := by cases k <;> rfl
def lookK (ds : List (D × D)) (k : Key) : Option D := (ds.find? fun p => decide (keyK p.1 = some k)).map (·.2)
def storeK (ds : List (D × D)) (k : Key) (v : D) : List (D × D) := if (lookK ds k).isSome = true then ds.map (fun p => if keyK p.1 = some k then (p.1, v) else p) else ds ++ [(kD k, v)]
def isTup : D → Bool
  | .tuple _ => true
  | _ => false
/-- what a dict holds at a key: none where that can't be asked -/
def dLook (e d : D) : Option (Option D) := match d with
  | .dict ((.none, .int m) :: ds) => if m = 1 then (if isTup e = true then (dkey e).map (lookD ds) else none) else if m = 0 then (keyK e).map (lookK ds) else none
  | _ => none
def dIn (e d : D) : Rv D := match dLook e d with | some o => .ok (.bool o.isSome) | none => .un
def dNotIn (e d : D) : Rv D := match dLook e d with | some o => .ok (.bool !o.isSome) | none => .un
def dGet (d e : D) : Rv D := match dLook e d with | some (some v) => .ok v | _ => .un
theorem RpK.look {c : Cz} {H : Hp} : ∀ {ds : List (D × D)} {kvs : List (Key × V)}, RpK c H kvs ds → ∀ k, match lookK ds k with | none => valV kvs k = none | some d => ∃ v, valV kvs k = some v ∧ Rp c H v d
  | [], _, h, k => by cases h; rfl
  | (e, d) :: ds, _, h, k => by
    cases h with
    | @cons k' v vs _ _ h1 h2 =>
      have ih := RpK.look h2 k
      unfold lookK valV at *
      rw [List.find?_cons, List.find?_cons, kD_keyK]
      by_cases q : k' = k
      · subst q
        simp only [decide_true, Option.map_some]
        exact ⟨v, rfl, h1⟩
      · simp only [Option.some.injEq, q, decide_false]
        exact ih
theorem RpK.lookSome {c : Cz} {H : Hp} {ds : List (D × D)} {kvs : List (Key × V)} (h : RpK c H kvs ds) (k : Key) : (lookK ds k).isSome = (valV kvs k).isSome := by
  have := h.look k
  cases e : lookK ds k with
  | none => rw [e] at this; dsimp only at this; rw [this]; rfl
  | some d => rw [e] at this; obtain ⟨v, q, _⟩ := this; rw [q]; rfl
theorem RpK.length {c : Cz} {H : Hp} : ∀ {ds : List (D × D)} {kvs : List (Key × V)}, RpK c H kvs ds → kvs.length = ds.length
  | [], _, h => by cases h; rfl
  | (e, d) :: ds, _, h => by cases h with | cons h1 h2 => simp [RpK.length h2]
theorem RpN.length {c : Cz} {H : Hp} : ∀ {ds : List (D × D)} {xs : List (NestedKey × Addr × V)}, RpN c H xs ds → xs.length = ds.length
  | [], _, h => by cases h; rfl
  | (e, d) :: ds, _, h => by cases h with | cons h1 h2 h3 h4 => simp [RpN.length h4]
theorem RpK.put {c : Cz} {H : Hp} {ds : List (D × D)} {kvs : List (Key × V)} (h : RpK c H kvs ds) {k : Key} {v : V} {d : D} (hv : Rp c H v d) : RpK c H (putK kvs k v) (storeK ds k d) := by
  have q := h.lookSome k
  unfold putK storeK
  rw [q, valV_any]
  split
  · rename_i z; clear z q
    induction ds generalizing kvs with
    | nil => cases h; exact .nil
    | cons p ds ih =>
      cases h with
      | @cons k' v' vs _ _ h1 h2 =>
        rw [List.map_cons, List.map_cons]
        by_cases e1 : k' = k
        · subst e1
          rw [if_pos rfl, if_pos (kD_keyK _)]
          exact .cons hv (ih h2)
        · rw [if_neg e1, if_neg (by rw [kD_keyK]; simpa using e1)]
          exact .cons h1 (ih h2)
  · rename_i z; clear z q
    induction ds generalizing kvs with
    | nil => cases h; exact .cons hv .nil
    | cons p ds ih => cases h with | cons h1 h2 => exact .cons h1 (ih h2)
/-- a key's value -/
theorem Rp.key {c : Cz} {H : Hp} {x : V} {e : D} {k : Key} (r : Rp c H x e) (h : keyK e = some k) : x = kV k := by
  unfold keyK at h
  split at h <;> cases h <;> cases r <;> rfl
theorem Rp.tupRef {c : Cz} {H : Hp} {x : V} {e : D} (r : Rp c H x e) (h : isTup e = true) : ∃ b, x = .ref b := by
  cases e with
  | tuple ds => cases r; exact ⟨_, rfl⟩
  | _ => cases h
section
variable {X : Cx} {S : Sx}
theorem At.cz (hX : S.At X) : Bv.cz X = S.c := by
  show (⟨X.prog, X.w, X.K, X.mg⟩ : Cz) = ⟨S.P, S.w, S.K, S.mg⟩
  rw [hX.hP, hX.hw, hX.hK, hX.hmg]
def rInK (neg : Bool) : R2 := fun x y H Q => ∃ a o, y = .ref a ∧ DGet H a x o ∧ Q (.bl (o.isSome != neg)) H
theorem op_inK (hu : X.A.units + 65 < cLine) : OpR X (compareOp .In) (rInK false) := by
  intro pins s σ H x y v u Q I rx ry h
  obtain ⟨a, o, rfl, g, q⟩ := h
  obtain rfl : u = Value.ref a := ry
  exact d_in (by omega) I g rx fun s' I' => ⟨.bl o.isSome, H, I', rfl, by simpa using q⟩
theorem op_notInK (hu : X.A.units + 65 < cLine) : OpR X (compareOp .NotIn) (rInK true) := by
  intro pins s σ H x y v u Q I rx ry h
  obtain ⟨a, o, rfl, g, q⟩ := h
  obtain rfl : u = Value.ref a := ry
  exact d_notIn (by omega) I g rx fun s' I' => ⟨.bl (!o.isSome), H, I', rfl, by simpa using q⟩
def rInA (c : Cz) (neg : Bool) : R2 := fun x y H Q => rInN c neg x y H Q ∨ rInK neg x y H Q
/-- what stands behind a look into a dict -/
theorem dLook_at {c : Cz} {H Hf : Hp} (eH : Gr H Hf) {x y : V} {e d : D} {o : Option D} (rx : Rp c H x e) (ry : Rp c H y d) (h : dLook e d = some o) :
    (∃ (a b : Addr) (ob : Obj) (xs : List (NestedKey × Addr × V)) (ds : List (D × D)) (k : NestedKey), x = .ref b ∧ y = .ref a ∧ Hf a = some (rawO a ob) ∧ DN c a ob xs ∧ RpN c H xs ds ∧ dkey e = some k ∧ lookD ds k = o) ∨
    (∃ (a : Addr) (kvs : List (Key × V)) (ds : List (D × D)) (k : Key), y = .ref a ∧ Rd Hf a (.dK kvs) ∧ RpK c H kvs ds ∧ x = kV k ∧ lookK ds k = o) := by
  unfold dLook at h
  split at h
  · rename_i m ds
    split at h
    · rename_i hm
      subst hm
      split at h
      · rename_i ht
        obtain ⟨k, e1, e2⟩ := Option.map_eq_some_iff.mp h
        obtain ⟨b, rfl⟩ := rx.tupRef ht
        cases ry with
        | dctN h1 h2 h3 => exact .inl ⟨_, b, _, _, ds, k, rfl, rfl, eH _ _ h1, h2, h3, e1, e2⟩
      · cases h
    · split at h
      · rename_i hm
        subst hm
        obtain ⟨k, e1, e2⟩ := Option.map_eq_some_iff.mp h
        cases ry with
        | dctK h1 h2 => exact .inr ⟨_, _, ds, k, rfl, eH.rd h1, h2, rx.key e1, e2⟩
      · cases h
  · cases h
theorem o2_in : Op2 S (rInA S.c false) dIn := by
  intro x y a b H Z Q σ z ra rb h
  unfold dIn at h
  cases e : dLook a b with
  | none => rw [e] at h; exact False.elim h
  | some o =>
    rw [e] at h
    rcases dLook_at (Gr.hid_le H Z) ra rb e with ⟨p, q, ob, xs, ds, k, rfl, rfl, h1, h2, h3, h4, h5⟩ | ⟨p, kvs, ds, k, rfl, h1, h2, h3, h4⟩
    · refine .inl ⟨p, q, ob, xs, ds, a, k, rfl, rfl, h1, h2, RpN.gr (Gr.hid_le H Z) h3, ra.gr (Gr.hid_le H Z), h4, ?_⟩
      rw [← lookX_some h3 k, h5]
      simpa using Post.ok (R := RE S) h (.bl _)
    · refine .inr ⟨p, valV kvs k, rfl, .inl ⟨kvs, k, h1, h3, rfl⟩, ?_⟩
      rw [← h2.lookSome k, h4]
      simpa using Post.ok (R := RE S) h (.bl _)
theorem o2_notIn : Op2 S (rInA S.c true) dNotIn := by
  intro x y a b H Z Q σ z ra rb h
  unfold dNotIn at h
  cases e : dLook a b with
  | none => rw [e] at h; exact False.elim h
  | some o =>
    rw [e] at h
    rcases dLook_at (Gr.hid_le H Z) ra rb e with ⟨p, q, ob, xs, ds, k, rfl, rfl, h1, h2, h3, h4, h5⟩ | ⟨p, kvs, ds, k, rfl, h1, h2, h3, h4⟩
    · refine .inl ⟨p, q, ob, xs, ds, a, k, rfl, rfl, h1, h2, RpN.gr (Gr.hid_le H Z) h3, ra.gr (Gr.hid_le H Z), h4, ?_⟩
      rw [← lookX_some h3 k, h5]
      simpa using Post.ok (R := RE S) h (.bl _)
    · refine .inr ⟨p, valV kvs k, rfl, .inl ⟨kvs, k, h1, h3, rfl⟩, ?_⟩
      rw [← h2.lookSome k, h4]
      simpa using Post.ok (R := RE S) h (.bl _)
variable {a b : Expr} {fa fb : Vw → Rv D} {pos : Pos}
theorem se_in (ha : SemE S a fa) (hb : SemE S b fb) (hm : behindInMarks .In b = false := by rfl) : SemE S (.Compare a [.In] [b] pos) (bi2 dIn fa fb) := se_cmp (fun X hX => by have hu := hX.units; rw [← At.cz hX]; exact (op_inN hu).or (op_inK hu)) o2_in ha hb hm
theorem st_in (ha : SemE S a fa) (hb : SemE S b fb) (hm : behindInMarks .In b = false := by rfl) : SemT S (.Compare a [.In] [b] pos) (asB (bi2 dIn fa fb)) := st_cmp (fun X hX => by have hu := hX.units; rw [← At.cz hX]; exact (op_inN hu).or (op_inK hu)) o2_in ha hb hm
theorem se_notin (ha : SemE S a fa) (hb : SemE S b fb) (hm : behindInMarks .NotIn b = false := by rfl) : SemE S (.Compare a [.NotIn] [b] pos) (bi2 dNotIn fa fb) := se_cmp (fun X hX => by have hu := hX.units; rw [← At.cz hX]; exact (op_notInN hu).or (op_notInK hu)) o2_notIn ha hb hm
theorem st_notin (ha : SemE S a fa) (hb : SemE S b fb) (hm : behindInMarks .NotIn b = false := by rfl) : SemT S (.Compare a [.NotIn] [b] pos) (asB (bi2 dNotIn fa fb)) := st_cmp (fun X hX => by have hu := hX.units; rw [← At.cz hX]; exact (op_notInN hu).or (op_notInK hu)) o2_notIn ha hb hm
/-- d[k] -/
def tGetA (c : Cz) (td ty : TE) : TE := fun σ H Q => td σ H fun x H1 => ty σ H1 fun y H2 => rGetN c x y H2 Q ∨ ∃ a v, x = .ref a ∧ DGet H2 a y (some v) ∧ Q v H2
theorem pe_getA {o i : Expr} {td ty : TE} {pos : Pos} (hu : X.A.units + 65 < cLine) (ho : PE X o td) (hi : PE X i ty) (hs : NoSl i) : PE X (.Subscript o i pos) (tGetA (cz X) td ty) := by
  refine ⟨fun pins s σ H Q I h => ?_⟩
  refine subD_of PySem.F.slot_dict_getitem.lookup hs (thn (ho.run pins s σ H _ I h) fun u s1 ⟨x, H1, I1, rx, q1⟩ => thn (hi.run pins s1 σ H1 _ I1 q1) fun iv s2 ⟨y, H2, I2, ry, q2⟩ => ?_)
  rcases q2 with ⟨a, b, ob, xs, ds, e, k, v, ex, ey, ha, hn, hr, he, hk, hv, q⟩ | ⟨a, v, ex, g, q⟩
  · subst ex ey
    obtain rfl : u = Value.ref a := rx
    obtain rfl : iv = Value.ref b := ry
    obtain ⟨us, p, dd⟩ := dn_of I2 ha hn hr
    obtain ⟨uv, hq, ru⟩ := RelO.some_of (v := v) (o := (atKey us k).map (·.2)) (by rw [← hv]; exact lookX_rel p k)
    obtain ⟨pp, e1, e2⟩ := Option.map_eq_some_iff.mp hq
    refine ⟨dd.typeIs, wpAny_getItem_heap (room_in1 hu) (key_is I2 he hk) dd e1 ⟨v, H2, I2.tok _, ?_, q⟩⟩
    rw [e2]; exact ru
  · subst ex
    obtain rfl : u = Value.ref a := rx
    exact ⟨dict_typeIs I2 g, d_getItem (by omega) I2 g ry fun w' s3 I3 rw' => ⟨v, H2, I3, rw', q⟩⟩
theorem se_get (ha : SemE S a fa) (hb : SemE S b fb) (hs : NoSl b := by intro _ _; rfl) : SemE S (.Subscript a b pos) (bi2 dGet fa fb) := by
  obtain ⟨ta, pa, qa⟩ := ha.ex
  obtain ⟨tb, pb, qb⟩ := hb.ex
  refine ⟨⟨tGetA S.c ta tb, fun X hX => ?_, fun η σ H Z Q z hη h => ?_⟩⟩
  · rw [← At.cz hX]
    exact pe_getA hX.units (pa X hX) (pb X hX) hs
  · refine qa η σ H Z _ z hη (Post.bind h fun d x H1 _ e1 r1 h1 => ?_)
    refine qb η σ H1 Z _ (z.gr e1) (hη.gr (e1.hid Z)) (Post.bind h1 fun e y H2 _ e2 r2 h2 => ?_)
    have r1 := r1.gr (e2.hid Z)
    have h2 : Post S (RE S) σ Z H2 Q (match dLook e d with | some (some v) => .ok v | _ => .un) := h2
    cases el : dLook e d with
    | none => rw [el] at h2; exact False.elim h2
    | some o =>
      cases o with
      | none => rw [el] at h2; exact False.elim h2
      | some w =>
        rw [el] at h2
        rcases dLook_at (Gr.hid_le H2 Z) r2 r1 el with ⟨p, q, ob, xs, ds, k, rfl, rfl, k1, k2, k3, k4, k5⟩ | ⟨p, kvs, ds, k, rfl, k1, k2, k3, k4⟩
        · have := lookX_D k3 k
          rw [k5] at this
          obtain ⟨v, e3, r3⟩ := this
          exact .inl ⟨p, q, ob, xs, ds, e, k, v, rfl, rfl, k1, k2, RpN.gr (Gr.hid_le H2 Z) k3, r2.gr (Gr.hid_le H2 Z), k4, e3, Post.ok (R := RE S) h2 r3⟩
        · have := k2.look k
          rw [k4] at this
          obtain ⟨v, e3, r3⟩ := this
          exact .inr ⟨p, v, rfl, .inl ⟨kvs, k, k1, k3, e3.symm⟩, Post.ok (R := RE S) h2 r3⟩
end
/-! stores into a dict of one's own -/
/-- what a store leaves of the entries -/
def putD (m : D) (ds : List (D × D)) (e v : D) : Option (List (D × D)) := match m with
  | .int 1 => if isTup e = true then (dkey e).map fun k => storeD ds k e v else none
  | .int 0 => (keyK e).map fun k => storeK ds k v
  | _ => none
def dput (j : Nat) (M : List Nat) (fk fv : Vw → Rv D) (ρ : Env') : Res := match ρ[j]? with
  | some (.ow 1 (.dict ((.none, m) :: ds))) => (fv (vw M ρ)).st fun v => (fk (vw [] ρ)).st fun e => if ds.length < 16000000 ∧ imm e = true ∧ (imm v = true ∨ M.contains j = false) then
      match putD m ds e v with | some ds' => .nx ((if imm v = true then ρ else frz M ρ).set j (.ow 1 (.dict ((.none, m) :: ds')))) | none => .un
    else .un
  | _ => .un
theorem Tree.isDict {c : Cz} {Hv H : Hp} {v : V} {m : D} {ds : List (D × D)} {U : List Addr} (t : Tree c Hv H 1 v (.dict ((.none, m) :: ds)) U) :
    ∃ a, v = .ref a ∧ U = [a] ∧ ((m = .int 0 ∧ ∃ kvs, H a = Option.some (.dK kvs) ∧ RpK c Hv kvs ds) ∨ (m = .int 1 ∧ ∃ o xs, H a = Option.some (rawO a o) ∧ DN c a o xs ∧ RpN c Hv xs ds)) := by
  have nK : ∀ {kvs : List (Key × V)} {ds : List (D × D)} {U : List Addr}, TreeK c Hv H 0 kvs ds U → U = [] ∧ RpK c Hv kvs ds := by
    intro kvs
    induction kvs with
    | nil => intro ds U h; cases h; exact ⟨rfl, .nil⟩
    | cons p kvs ih =>
      intro ds U h
      cases h with
      | cons h1 h2 h3 =>
        obtain ⟨rfl, r⟩ := ih h2
        cases h1 with
        | leaf0 q => exact ⟨rfl, .cons q r⟩
        | leaf _ q => exact ⟨rfl, .cons q r⟩
  have nN : ∀ {xs : List (NestedKey × Addr × V)} {ds : List (D × D)} {U : List Addr}, TreeN c Hv H 0 xs ds U → U = [] ∧ RpN c Hv xs ds := by
    intro xs
    induction xs with
    | nil => intro ds U h; cases h; exact ⟨rfl, .nil⟩
    | cons p xs ih =>
      intro ds U h
      cases h with
      | cons g1 g2 h1 h2 h3 =>
        obtain ⟨rfl, r⟩ := ih h2
        cases h1 with
        | leaf0 q => exact ⟨rfl, .cons g1 g2 q r⟩
        | leaf _ q => exact ⟨rfl, .cons g1 g2 q r⟩
  cases t with
  | leaf i _ => simp [imm] at i
  | dctK h1 h2 h3 => obtain ⟨rfl, r⟩ := nK h2; exact ⟨_, rfl, rfl, .inl ⟨rfl, _, h1, r⟩⟩
  | dctN h1 h2 h3 h4 => obtain ⟨rfl, r⟩ := nN h3; exact ⟨_, rfl, rfl, .inr ⟨rfl, _, _, h1, h2, r⟩⟩
theorem treeK0 {c : Cz} {Hv H : Hp} {kvs : List (Key × V)} : ∀ {ds : List (D × D)}, RpK c Hv kvs ds → TreeK c Hv H 0 kvs ds [] := by
  induction kvs with
  | nil => intro ds h; cases h; exact .nil
  | cons p kvs ih => intro ds h; cases h with | cons h1 h2 => exact .cons (U := []) (W := []) (.leaf0 h1) (ih h2) (fun a h => by cases h)
theorem treeN0 {c : Cz} {Hv H : Hp} {xs : List (NestedKey × Addr × V)} : ∀ {ds : List (D × D)}, RpN c Hv xs ds → TreeN c Hv H 0 xs ds [] := by
  induction xs with
  | nil => intro ds h; cases h; exact .nil
  | cons p xs ih => intro ds h; cases h with | cons h1 h2 h3 h4 => exact .cons (U := []) (W := []) h1 h2 (.leaf0 h3) (ih h4) (fun a h => by cases h)
theorem treeDK {c : Cz} {Hv H : Hp} {a : Addr} {kvs : List (Key × V)} {ds : List (D × D)} (h : H a = some (.dK kvs)) (r : RpK c Hv kvs ds) : Tree c Hv H 1 (.ref a) (.dict ((.none, .int 0) :: ds)) [a] := .dctK h (treeK0 r) (by simp)
theorem treeDN {c : Cz} {Hv H : Hp} {a : Addr} {o : Obj} {xs : List (NestedKey × Addr × V)} {ds : List (D × D)} (h : H a = some (rawO a o)) (q : DN c a o xs) (r : RpN c Hv xs ds) : Tree c Hv H 1 (.ref a) (.dict ((.none, .int 1) :: ds)) [a] := .dctN h q (treeN0 r) (by simp)
/-- the store's reading -/
def tPutA (c : Cz) (td ty tv : TE) : TS := fun Dn σ H => tv σ H fun v H1 => td σ H1 fun x H2 => ty σ H2 fun y H3 =>
  (∃ (a b : Addr) (o : Obj) (xs : List (NestedKey × Addr × V)) (ds : List (D × D)) (e : D) (k : NestedKey), x = .ref a ∧ y = .ref b ∧ H3 a = some (rawO a o) ∧ DN c a o xs ∧ RpN c H3 xs ds ∧ Rp c H3 (.ref b) e ∧ dkey e = some k ∧ xs.length ≤ sizeLine ∧ ∀ o', DN c a o' (storeX xs k b v) → Dn.nx σ (upd H3 a (rawO a o'))) ∨
  ∃ a H4, x = .ref a ∧ DPut H3 a y v H4 ∧ Dn.nx σ H4
section
variable {X : Cx} {S : Sx}
theorem dn_write {pins : List (Addr × Obj)} {σ : L2.St} {H : Hp} {s : Shared} {a b : Addr} {o : Obj} {xs : List (NestedKey × Addr × V)} {us : List (NestedKey × Addr × Value)} {k : NestedKey} {v : V} {u : Value} {h' : Heap} {t' : Nat} (I : Inv X pins σ H s) (ha : H a = some (rawO a o)) (hn : DN (cz X) a o xs) (p : Paired EnR xs us) (rv : RelV v u)
    (dd : h'.DictOfH (nestedKind X.prog X.w) a (storedH us k b u)) (hs : Heap.SameBut a s.heap h') : ∃ o', DN (cz X) a o' (storeX xs k b v) ∧ Inv X pins σ (upd H a (rawO a o')) { s with heap := h', toks := t' } := by
  obtain ⟨o', es, ep, hq, h2, h3, h4, _, h5⟩ := dd
  exact ⟨o', ⟨hn.sm, h2, storeX_nd hn.nd k b v, es, ep, _, h3, storeX_rel p rv, h4⟩, d_write I (by rw [ha]; exact True.intro) hs ⟨o', hq⟩ (rawO_ok hq)⟩
theorem ps_putA {o i value : Expr} {td ty tv : TE} {pos pos' : Pos} (hu : X.A.units + 65 < cLine) (ho : PE X o td) (hi : PE X i ty) (hv : PE X value tv) (hs : swapsWith value (some (.Subscript o i pos')) pos.line X.env = pure false) :
    PS X (.Assign [.Subscript o i pos'] value pos) (tPutA (cz X) td ty tv) := by
  refine ⟨fun pins s σ H D I h => ?_⟩
  refine wpAny_Assign_Subscript (thn (hv.run pins s σ H _ I h) fun r s1 ⟨v, H1, I1, rv, q1⟩ => thn (ho.run pins s1 σ H1 _ I1 q1) fun u s2 ⟨x, H2, I2, rx, q2⟩ => thn (hi.run pins s2 σ H2 _ I2 q2) fun iv s3 ⟨y, H3, I3, ry, q3⟩ => ?_) hs
  rcases q3 with ⟨a, b, ob, xs, ds, e, k, ex, ey, ha, hn, hr, he, hk, hl, q⟩ | ⟨a, H4, ex, g, q⟩
  · subst ex ey
    obtain rfl : u = Value.ref a := rx
    obtain rfl : iv = Value.ref b := ry
    obtain ⟨us, p, dd⟩ := dn_of I3 ha hn hr
    refine wpAny_setItem_heap (hsz := by rw [← Paired.length p]; exact hl) (room_in1 hu) (key_is I3 he hk) dd fun h' dd' hs' => ?_
    obtain ⟨o', k1, k2⟩ := dn_write I3 ha hn p rv dd' hs'
    exact ⟨σ, _, k2, q o' k1⟩
  · subst ex
    obtain rfl : u = Value.ref a := rx
    exact d_setItem (by omega) I3 g ry rv fun s4 I4 => ⟨σ, H4, I4, q⟩
/-- x[e] = v, x a dict of one's own -/
theorem ss_dput {j : Nat} {x : Str} {ke ve : Expr} {fk fv : Vw → Rv D} {p1 p2 pos : Pos} (M : List Nat) (hk : SemE S ke fk) (hv : SemE S ve fv) (hN : S.N[j]? = some x := by rfl) (hvis : Vis S.sc x := by first | exact Or.inl rfl | exact Or.inr (Or.inl rfl) | exact Or.inr (Or.inr rfl)) (hd : (x == ("__debug__" : Str)) = false := by decide)
    (hcd : (x == ("__classdict__" : Str)) = false := by decide) (hs : ∀ env, swapsWith ve (some (.Subscript (.Name x p1) ke p2)) pos.line env = pure false := by intro _; rfl) : SemS S (.Assign [.Subscript (.Name x p1) ke p2] ve pos) (dput j M fk fv) := by
  obtain ⟨tk, pk, qk⟩ := hk.ex
  obtain ⟨tv, pv, qv⟩ := hv.ex
  refine ⟨⟨tPutA S.c (tVar j) tk tv, fun X hX => ?_, fun ρ F H0 Z σ H Dn ⟨o, k⟩ h => ?_⟩⟩
  · rw [← At.cz hX]
    exact ps_putA hX.units (pe_var (by rw [hX.hN]; exact hN) (by rw [hX.hsc]; exact hvis) hd hcd) (pk X hX) (pv X hX) (hs _)
  unfold dput at h
  split at h
  · rename_i m ds hj
    refine qv (vw M ρ) σ H (hz Z ρ o M) _ k.hin k.view (run_e k h fun v w H1 _ k1 r1 h1 => ?_)
    obtain ⟨⟨v0, s1, tr⟩, s2⟩ := k1.ow j _ _ hj
    refine ⟨v0, s1, ?_⟩
    refine qk (vw [] ρ) σ H1 (hz Z ρ o []) _ k1.hin k1.view ?_
    cases ek : fk (vw [] ρ) with
    | un => rw [ek] at h1; exact h1
    | xc x' => rw [ek] at h1; exact fun cls dx H' e q => h1 cls dx σ H' (k1.gr.trans e) (k1.out e) (q.gr ((Gr.refl H').hid2 fun a z => .inl z))
    | ok e =>
      rw [ek] at h1
      intro kv H2 e2 r2
      have k2 := k1.grow e2
      have r1 := r1.gr (e2.hid _)
      obtain ⟨⟨v0', s1', tr'⟩, s2'⟩ := k2.ow j _ _ hj
      rw [s1] at s1'
      cases s1'
      simp only [Rv.st_ok] at h1
      split at h1
      · rename_i hc
        obtain ⟨c1, c2, c3⟩ := hc
        obtain ⟨a, rfl, hU, hD⟩ := tr'.isDict
        have hne : ∀ {ob : HO} (b : Addr), b ∉ o j → upd H2 a ob b = H2 b := fun b hb => upd_ne fun z => hb (by rw [hU, z]; exact List.mem_singleton.mpr rfl)
        -- the end: the changed dict, whatever is given up
        have fin : ∀ (ob : HO) (ds' : List (D × D)), putD m ds e v = some ds' → (∀ Hv, Gr (hid H2 (hz Z ρ o M)) Hv ∨ (imm v = true ∧ Gr (hid H2 (hz Z ρ o [])) Hv) → Gr (hid H2 (hz Z ρ o [])) Hv → Rp S.c Hv w v → Tree S.c Hv (upd H2 a ob) 1 (.ref a) (.dict ((.none, m) :: ds')) [a]) → Dn.nx σ (upd H2 a ob) := fun ob ds' e3 ht => by
          rw [e3] at h1
          refine h1 σ _ ⟨o, ?_⟩
          by_cases hm : imm v = true
          · rw [if_pos hm]
            refine k2.change hj s1 (hne (ob := ob)) fun Hv eg => ?_
            rw [hU]
            exact ht Hv (.inr ⟨hm, eg⟩) eg ((k2.imm hm r1).gr eg)
          · rw [if_neg hm]
            have cj := c3.resolve_left hm
            refine (k2.freeze M).change (frz_of hj (by simpa using cj)) s1 (hne (ob := ob)) fun Hv eg => ?_
            rw [hid_frz] at eg
            rw [hU]
            exact ht Hv (.inl eg) (((Gr.refl H2).hid2 fun a => hz_nil).trans eg) (r1.gr eg)
        have rk : Rp S.c H2 kv e := r2.gr (Gr.hid_le _ _)
        rcases hD with ⟨rfl, kvs, d1, d2⟩ | ⟨rfl, ob, xs, d1, d2, d3⟩
        · -- texts and numbers for keys
          have e3 : putD (.int 0) ds e v = (keyK e).map fun k => storeK ds k v := rfl
          cases eq : keyK e with
          | none => rw [e3, eq] at h1; exact False.elim h1
          | some kk =>
            refine .inr ⟨a, _, rfl, .inl ⟨kvs, kk, d1, r2.key eq, ?_, rfl⟩, fin _ _ (by rw [e3, eq]; rfl) fun Hv _ eg rw' => ?_⟩
            · have := d2.length
              exact Nat.lt_of_lt_of_le (show kvs.length < 16000000 by omega) (by decide)
            · exact treeDK upd_same ((RpK.gr eg d2).put rw')
        · have e3 : putD (.int 1) ds e v = if isTup e = true then (dkey e).map fun k => storeD ds k e v else none := rfl
          by_cases ht : isTup e = true
          · obtain ⟨b, rfl⟩ := r2.tupRef ht
            cases eq : dkey e with
            | none => rw [e3, if_pos ht, eq] at h1; exact False.elim h1
            | some kk =>
              have rkv := k2.imm (M := []) c2 r2
              refine .inl ⟨a, b, ob, xs, ds, e, kk, rfl, rfl, d1, d2, RpN.gr (Gr.hid_le _ _) d3, rk, eq, ?_, fun o' q' => fin _ _ (by rw [e3, if_pos ht, eq]; rfl) fun Hv _ eg rw' => ?_⟩
              · have := RpN.length d3
                exact Nat.le_trans (show xs.length ≤ 16000000 by omega) (by decide)
              · exact treeDN upd_same q' (storeX_rp (RpN.gr eg d3) (rkv.gr eg) eq rw')
          · rw [e3, if_neg ht] at h1; exact False.elim h1
      · exact False.elim h1
  · exact False.elim h
end
end Bv

namespace Bv
open PySem PySem.Spec L2 PyProof.Rows

/-! ### new dicts -/
def asgDN (i : Nat) (m : Int) (ρ : Env') : Res := if i < ρ.length then .nx (ρ.set i (.ow 1 (.dict [(.none, .int m)]))) else .un
def tDN (c : Cz) : TE := fun _ H Q => ∀ p o, H p = none → DN c p o [] → Q (.ref p) (upd H p (rawO p o))
theorem dn_new {c : Cz} {a : Addr} (h : sysModules < a) : DN c a { cls := .type "dict", data := .dict #[] } [] :=
  ⟨beq_eq_false_iff_ne.mpr (Ne.symm (Nat.ne_of_lt h)), ⟨rfl, rfl, rfl⟩, List.nodup_nil, #[], 0, [], rfl, .nil, rfl⟩
section
variable {X : Cx} {S : Sx}
theorem pe_dnN {pos : Pos} : PE X (.Dict [] [] pos) (tDN (cz X)) :=
  ⟨fun pins s σ H Q I h => wpAny_Dict_empty ⟨.ref _, _, I.laid (t' := s.toks) (o := rawO s.heap.objs.size { cls := .type "dict", data := .dict #[] }) (fun b o q => Heap.get?_push_of_some _ q) (Nat.le_refl _) (rawO_ok (Heap.get?_push_size _ rfl)), rfl, h _ _ (I.hok.fresh (Nat.le_refl _)) (dn_new I.big)⟩⟩
theorem OkAt.layD {c : Cz} {F H0 H : Hp} {Z : Addr → Prop} {ρ : Env'} {o : Nat → List Addr} {σ : L2.St} (k : OkAt c F H0 Z ρ o σ H) {i : Nat} {p : Addr} {d : D} {H' : Hp} (e0 : Gr H H') (hp : H p = none) (hi : i < ρ.length) (r : ∀ Hv, Gr (hid H (hz Z ρ o [])) Hv → Tree c Hv H' 1 (.ref p) d [p]) :
    OkAt c F H0 Z (ρ.set i (.ow 1 d)) (fun j => if j = i then [p] else o j) (σ.set i (some (.ref p))) H' :=
  k.layT e0 (fun a ha => by rw [List.mem_singleton.mp ha]; exact hp) hi fun Hv e => r Hv (Gr.trans (fun a u h => by
    obtain ⟨h1, h2⟩ := hid_some h
    have na : a ≠ p := ne_of_none h2 hp
    rw [hid_no (fun z => z.elim h1 fun z => na (List.mem_singleton.mp z))]
    exact e0 _ _ h2) e)
/-- x = {}, to be of tuples for keys -/
theorem ss_dnewN {i : Nat} {x : Str} {p1 p2 pos : Pos} (hi : S.N[i]? = some x := by rfl) (hx : L2.Loc S.sc x := by first | exact Or.inl rfl | exact Or.inr rfl) (hst : S.st x = true := by rfl) (hs : ∀ env, swapsWith (.Dict [] [] p2) (some (.Name x p1)) pos.line env = pure false := by intro _; rfl) :
    SemS S (.Assign [.Name x p1] (.Dict [] [] p2) pos) (asgDN i 1) := by
  refine ⟨⟨tAsg (tDN S.c) (gName i), fun X hX => ?_, fun ρ F H0 Z σ H Dn ⟨o, k⟩ h => fun p ob hp hn => ?_⟩⟩
  · rw [← At.cz hX]
    exact ps_set hX.nd (by rw [hX.hN]; exact hi) (by rw [hX.hsc]; exact hx) pe_dnN (hs _) (hX.fnl x hx hst)
  · unfold asgDN at h
    split at h
    · rename_i hl
      exact h _ _ ⟨_, k.layD (Gr.new hp) hp hl fun Hv _ => treeDN upd_same hn .nil⟩
    · exact False.elim h
/-- x = {}, to be of whole numbers and texts for keys -/
theorem ss_dnewK {i : Nat} {x : Str} {p1 p2 pos : Pos} (hi : S.N[i]? = some x := by rfl) (hx : L2.Loc S.sc x := by first | exact Or.inl rfl | exact Or.inr rfl) (hst : S.st x = true := by rfl) (hs : ∀ env, swapsWith (.Dict [] [] p2) (some (.Name x p1)) pos.line env = pure false := by intro _; rfl) :
    SemS S (.Assign [.Name x p1] (.Dict [] [] p2) pos) (asgDN i 0) := by
  refine ⟨⟨tAsg tDNewK (gName i), fun X hX => ?_, fun ρ F H0 Z σ H Dn ⟨o, k⟩ h => fun p hp => ?_⟩⟩
  · exact ps_set hX.nd (by rw [hX.hN]; exact hi) (by rw [hX.hsc]; exact hx) pe_dnewK (hs _) (hX.fnl x hx hst)
  · unfold asgDN at h
    split at h
    · rename_i hl
      exact h _ _ ⟨_, k.layD (Gr.new hp) hp hl fun Hv _ => treeDK upd_same .nil⟩
    · exact False.elim h
/-- {k: v} with one pair, k a tuple -/
def tD1 (c : Cz) (tk tv : TE) : TE := fun σ H Q => ∀ p o, H p = none → DN c p o [] → tk σ (upd H p (rawO p o)) fun x H1 => tv σ H1 fun y H2 =>
  ∃ (b : Addr) (e : D) (k : NestedKey), x = .ref b ∧ Rp c H2 (.ref b) e ∧ dkey e = some k ∧ H2 p = some (rawO p o) ∧ ∀ o', DN c p o' [(k, b, y)] → Q (.ref p) (upd H2 p (rawO p o'))
theorem pe_d1 {ke ve : Expr} {tk tv : TE} {pos : Pos} (hu : X.A.units + 65 < cLine) (hk : PE X ke tk) (hv : PE X ve tv)
    (hsh : (evalEachOpt [some ke] X.env).zip ((evalEach [ve] X.env).map fun w => do let y ← w; standAt pos; pure y) = (pairTrees [some ke] [ve] X.env pos).map fun q => (some q.1, q.2)) (hne : pairTrees [some ke] [ve] X.env pos ≠ []) (hl : (pairTrees [some ke] [ve] X.env pos).length ≤ 15) : PE X (.Dict [some ke] [ve] pos) (tD1 (cz X) tk tv) := by
  refine ⟨fun pins s σ H Q I q => ?_⟩
  have hn := I.hok.fresh (Nat.le_refl s.heap.objs.size)
  have I1 := I.laid (t' := s.toks) (o := rawO s.heap.objs.size { cls := .type "dict", data := .dict #[] }) (h' := s.heap.push { cls := .type "dict", data := .dict #[] }) (fun b o z => Heap.get?_push_of_some _ z) (Nat.le_refl _) (rawO_ok (Heap.get?_push_size _ rfl))
  rw [arm_eval_Dict, hsh, dictDisplay_pairs _ hne (by omega)]
  have PP : PPs X pos [some ke] [ve] [(tk, tv)] := pps_cons hk hv pps_nil
  refine wpAny_bind (wpAny_standAt (wpAny_bind (wpAny_subDictH (knd := nestedKind X.prog X.w) (by show X.A.units + 8 < cLine; omega) hl (thn (PP.run pins _ σ _ (fun ps H2 => match ps with | [(x, y)] => ∃ (b : Addr) (e : D) (k : NestedKey), x = .ref b ∧ Rp (cz X) H2 (.ref b) e ∧ dkey e = some k ∧ H2 s.heap.objs.size = some (rawO s.heap.objs.size { cls := .type "dict", data := .dict #[] }) ∧ ∀ o', DN (cz X) s.heap.objs.size o' [(k, b, y)] → Q (.ref s.heap.objs.size) (upd H2 s.heap.objs.size (rawO s.heap.objs.size o')) | _ => False) I1 ?_) fun ws s2 hh => ?_))))
  · exact q _ _ hn (dn_new I.big)
  · obtain ⟨ps, H2, I2, rel, hh⟩ := hh
    obtain ⟨x, y, rfl⟩ : ∃ x y, ps = [(x, y)] := by
      match ps, hh with
      | [(x, y)], _ => exact ⟨x, y, rfl⟩
    obtain ⟨b, e, k, rfl, re, ke', hp, q2⟩ := hh
    cases rel with
    | cons r1 r2 =>
      cases r2
      rename_i wk
      obtain ⟨wx, wy⟩ := wk
      obtain ⟨rx, ry⟩ := r1
      obtain rfl : wx = Value.ref b := rx
      refine ⟨[(k, b, wy)], ⟨rfl, rfl, key_is I2 re ke', trivial⟩, ⟨_, #[], 0, rawO_at I2.hok hp, ⟨rfl, rfl, rfl⟩, rfl, rfl, (fun _ z => by cases z), List.nodup_nil⟩, fun h' t' dd hs => wpAny_pure ?_⟩
      obtain ⟨o', es, ep, h1, h2, h3, h4, _, h5⟩ := dd
      have hd : DN (cz X) s.heap.objs.size o' [(k, b, y)] := ⟨(dn_new (c := cz X) I.big).sm, h2, by simp, es, ep, _, h3, .cons ⟨rfl, rfl, ry⟩ .nil, h4⟩
      exact ⟨.ref s.heap.objs.size, _, d_write I2 (by rw [hp]; exact True.intro) hs ⟨o', h1⟩ (rawO_ok h1), rfl, q2 o' hd⟩
end
end Bv

namespace Bv
open PySem PySem.Spec L2 PyProof.Rows

/-! ### a dict of one pair; what is taken off a list of one's own -/
def asgD1 (i : Nat) (fk fv : Vw → Rv D) (ρ : Env') : Res := (fk (vw [] ρ)).st fun e => (fv (vw [] ρ)).st fun v =>
  if i < ρ.length ∧ isTup e = true ∧ imm e = true ∧ imm v = true then match dkey e with
    | some _ => .nx (ρ.set i (.ow 1 (.dict [(.none, .int 1), (e, v)])))
    | none => .un
  else .un
section
variable {X : Cx} {S : Sx}
/-- x = {k: v}, k a tuple -/
theorem ss_dnew1 {i : Nat} {x : Str} {ke ve : Expr} {fk fv : Vw → Rv D} {p1 p2 pos : Pos} (hk : SemE S ke fk) (hv : SemE S ve fv) (hi : S.N[i]? = some x := by rfl) (hx : L2.Loc S.sc x := by first | exact Or.inl rfl | exact Or.inr rfl) (hst : S.st x = true := by rfl) (hs : ∀ env, swapsWith (.Dict [some ke] [ve] p2) (some (.Name x p1)) pos.line env = pure false := by intro _; rfl)
    (hsh : ∀ env : Env, (evalEachOpt [some ke] env).zip ((evalEach [ve] env).map fun w => do let y ← w; standAt p2; pure y) = (pairTrees [some ke] [ve] env p2).map fun q => (some q.1, q.2) := by intro _; rfl) (hne : ∀ env : Env, pairTrees [some ke] [ve] env p2 ≠ [] := by intro _ z; cases z) (hl : ∀ env : Env, (pairTrees [some ke] [ve] env p2).length ≤ 15 := by intro _; exact Nat.le_of_ble_eq_true rfl) :
    SemS S (.Assign [.Name x p1] (.Dict [some ke] [ve] p2) pos) (asgD1 i fk fv) := by
  obtain ⟨tk, pk, qk⟩ := hk.ex
  obtain ⟨tv, pv, qv⟩ := hv.ex
  refine ⟨⟨tAsg (tD1 S.c tk tv) (gName i), fun X hX => ?_, fun ρ F H0 Z σ H Dn ⟨o, k⟩ h => fun p ob hp hn => ?_⟩⟩
  · rw [← At.cz hX]
    exact ps_set hX.nd (by rw [hX.hN]; exact hi) (by rw [hX.hsc]; exact hx) (pe_d1 hX.units (pk X hX) (pv X hX) (hsh _) (hne _) (hl _)) (hs _) (hX.fnl x hx hst)
  · have k1 := k.grow (Gr.new (o := rawO p ob) hp)
    have eq0 : upd H p (rawO p ob) p = some (rawO p ob) := upd_same
    generalize eH1 : upd H p (rawO p ob) = H1 at *
    have g1 : Gr H H1 := eH1 ▸ Gr.new hp
    refine qk (vw [] ρ) σ H1 (hz Z ρ o []) _ k1.hin k1.view (run_eg k1 h fun e kv H2 _ g2 k2 r2 h2 => ?_)
    refine qv (vw [] ρ) σ H2 (hz Z ρ o []) _ k2.hin k2.view (run_eg k2 h2 fun d v H3 _ g3 k3 r3 h3 => ?_)
    split at h3
    · rename_i hc
      obtain ⟨c1, c2, c3, c4⟩ := hc
      cases ek : dkey e with
      | none => rw [ek] at h3; exact False.elim h3
      | some kk =>
        rw [ek] at h3
        obtain ⟨b, rfl⟩ := r2.tupRef c2
        have r2 := r2.gr (g3.hid (hz Z ρ o []))
        have hp3 : H3 p = some (rawO p ob) := g3 _ _ (g2 _ _ eq0)
        refine ⟨b, e, kk, rfl, r2.gr (Gr.hid_le _ _), ek, hp3, fun o' hd => ?_⟩
        have nT : ∀ a, (hz Z ρ o [] a ∨ a ∈ [p]) → hz Z ρ o [] a ∨ NotT (H3 a) := fun a z => z.imp id fun z => by
          rw [List.mem_singleton.mp z, hp3]
          exact fun xs => ⟨fun q => rawO_tup (Option.some.inj q), fun oo q => rawO_frz (Option.some.inj q)⟩
        have gf : Gr (hid H3 fun a => hz Z ρ o [] a ∨ a ∈ [p]) (hid (upd H3 p (rawO p o')) fun a => hz Z ρ o [] a ∨ a ∈ [p]) := fun a u q => by
          obtain ⟨q1, q2⟩ := hid_some q
          have na : a ≠ p := fun z => q1 (.inr (by rw [z]; exact List.mem_singleton.mpr rfl))
          rw [hid_no q1, upd_ne na]
          exact q2
        refine h3 _ _ ⟨_, k.layT (U := [p]) (fun a u q => ?_) (fun a ha => by rw [List.mem_singleton.mp ha]; exact hp) c1 fun Hv eg => ?_⟩
        · rw [upd_ne (ne_of_none q hp)]
          exact g3 _ _ (g2 _ _ (g1 _ _ q))
        · exact treeDN upd_same hd (.cons ((Rp.un nT c3 r2).gr (gf.trans eg)) ek ((Rp.un nT c4 r3).gr (gf.trans eg)) .nil)
    · exact False.elim h3
theorem TreeA.leaf {c : Cz} {Hv H : Hp} {vs : List V} : ∀ {ds : List D} {U : List Addr}, TreeA c Hv H 0 vs ds U → U = [] ∧ RpA c Hv vs ds := by
  induction vs with
  | nil => intro ds U h; cases h; exact ⟨rfl, .nil⟩
  | cons p vs ih =>
    intro ds U h
    cases h with
    | cons h1 h2 h3 =>
      obtain ⟨rfl, r⟩ := ih h2
      cases h1 with
      | leaf0 q => exact ⟨rfl, .cons q r⟩
      | leaf _ q => exact ⟨rfl, .cons q r⟩
theorem RpA.len {c : Cz} {H : Hp} {vs : List V} : ∀ {ds : List D}, RpA c H vs ds → vs.length = ds.length := by
  induction vs with
  | nil => intro ds h; cases h; rfl
  | cons v vs ih => intro ds h; cases h with | cons h1 h2 => simp [ih h2]
theorem RpA.last {c : Cz} {H : Hp} {vs : List V} : ∀ {ds : List D} {d : D}, RpA c H vs (ds ++ [d]) → ∃ ws w, vs = ws ++ [w] ∧ RpA c H ws ds ∧ Rp c H w d := by
  induction vs with
  | nil => intro ds d h; cases ds <;> cases h
  | cons v vs ih =>
    intro ds d h
    cases ds with
    | nil => cases h with | cons h1 h2 => cases h2; exact ⟨[], v, rfl, .nil, h1⟩
    | cons e ds =>
      cases h with
      | cons h1 h2 =>
        obtain ⟨ws, w, rfl, h3, h4⟩ := ih h2
        exact ⟨v :: ws, w, rfl, .cons h1 h3, h4⟩
/-- the last one off a list of one's own -/
def popA (i j : Nat) (ρ : Env') : Res := match ρ[j]? with
  | some (.ow 1 (.list xs)) => if i < ρ.length ∧ i ≠ j then match xs.getLast? with
      | some d => .nx ((ρ.set j (.ow 1 (.list xs.dropLast))).set i (.fz d))
      | none => .un
    else .un
  | _ => .un
theorem ss_pop {i j : Nat} {x y : Str} {p1 p2 p3 p4 pos : Pos} (hi : S.N[i]? = some x := by rfl) (hx : L2.Loc S.sc x := by first | exact Or.inl rfl | exact Or.inr rfl) (hst : S.st x = true := by rfl) (hN : S.N[j]? = some y := by rfl) (hv : Vis S.sc y := by first | exact Or.inl rfl | exact Or.inr (Or.inl rfl) | exact Or.inr (Or.inr rfl)) (hd : (y == ("__debug__" : Str)) = false := by decide)
    (hcd : (y == ("__classdict__" : Str)) = false := by decide) (hbase : ∀ env, attributeBase (.Name y p1) "pop" env (eval (.Name y p1) env) = eval (.Name y p1) env := by intro _; rfl) (hline : (p2.endLine == p3.line) = true := by rfl)
    (hs : ∀ env, swapsWith (.Call (.Attribute (.Name y p1) "pop" p2) [] [] p3) (some (.Name x p4)) pos.line env = pure false := by intro _; rfl) : SemS S (.Assign [.Name x p4] (.Call (.Attribute (.Name y p1) "pop" p2) [] [] p3) pos) (popA i j) := by
  refine ⟨⟨tAsg (tBM0 S.K "list" rPop (tVar j)) (gName i), fun X hX => ?_, fun ρ F H0 Z σ H Dn ⟨o, k⟩ h => ?_⟩⟩
  · rw [← hX.hK]
    exact ps_set hX.nd (by rw [hX.hN]; exact hi) (by rw [hX.hsc]; exact hx) (pe_bm0 PySem.F.plainAttrs_list PySem.F.slot_list_pop PySem.F.type_list_pop mt_pop (pe_var (by rw [hX.hN]; exact hN) (by rw [hX.hsc]; exact hv) hd hcd) (hbase _) hline) (hs _) (hX.fnl x hx hst)
  have h : PostS S F H0 Z Dn (match ρ[j]? with | some (.ow 1 (.list xs)) => if i < ρ.length ∧ i ≠ j then match xs.getLast? with | some d => .nx ((ρ.set j (.ow 1 (.list xs.dropLast))).set i (.fz d)) | none => .un else .un | _ => .un) := h
  split at h
  · rename_i xs hj
    split at h
    · rename_i hc
      obtain ⟨c1, c2⟩ := hc
      cases el : xs.getLast? with
      | none => rw [el] at h; exact False.elim h
      | some d =>
        rw [el] at h
        have ex : xs = xs.dropLast ++ [d] := by
          have hne : xs ≠ [] := fun z => by rw [z] at el; cases el
          rw [List.getLast?_eq_some_getLast hne] at el
          cases el
          exact (List.dropLast_concat_getLast hne).symm
        obtain ⟨⟨v0, s1, tr⟩, s2⟩ := k.ow j _ _ hj
        obtain ⟨a, vs, W, rfl, hU, s4, s5, s6⟩ := tr.isL
        obtain ⟨rfl, r⟩ := TreeA.leaf s5
        rw [ex] at r
        obtain ⟨ws, w, rfl, r1, r2⟩ := RpA.last r
        refine ⟨_, s1, .inl ⟨rfl, _, .inl (.inl s4)⟩, a, ws ++ [w], w, rfl, rfl, s4, by simp, ?_⟩
        have hne : ∀ b, b ∉ o j → upd H a (.lst ws) b = H b := fun b hb => upd_ne fun z => hb (by rw [hU, z]; exact List.mem_cons_self)
        have k2 := (k.keep (F' := hid H (hz Z ρ o [])) (Gr.refl _)).change hj s1 hne (d := .list xs.dropLast) (H' := upd H a (.lst ws)) fun Hv eg => by
          rw [hU]
          exact .lst upd_same (TreeA.leaves (RpA.gr eg r1)) (by simp)
        have r2 := r2.gr k2.fr
        have k3 := k2.keep (F' := F) (k.fr.trans k2.fr)
        show Dn.nx _ (upd H a (.lst (ws ++ [w]).dropLast))
        rw [List.dropLast_concat]
        exact h _ _ ⟨o, k3.put r2⟩
    · exact False.elim h
  · exact False.elim h
end
end Bv


/-! ### list(reversed(a list)) -/
namespace Bv
open PySem PySem.Spec PySem.W PyProof.Rows RT
section
variable {prog : Program} {w : World} {A : Around} {E : Value → Shared → Prop} {s : Shared} {R : Result → Shared → Prop}
theorem extend_rev {it l : Addr} {items : Array Value} (S : Addr) (res : Value) (c₀ : Nat) (hh : A.handled = none) (hit : s.heap.IsRevIter it l ((items.size : Int) - 1)) (hl : s.heap.IsList l items) (hne : l ≠ it) (hn : items.size ≤ sizeLine) (hSi : S ≠ it) (hSl : S ≠ l)
    (hS : s.heap.get? S = some { cls := .type "list", data := .seq #[] c₀ })
    (hR : ∀ s' acc' c', Moved (S :: [it]) (fun g g' => g' = g) s s' → s'.heap.get? S = some { cls := .type "list", dict := none, data := .seq acc' c', slots := #[] } → ItemsOf (fun i v => items[items.size - 1 - i]? = some v) acc' items.size → R (.ok (.ret res)) s') :
    wpAny (model prog w) A.in1 (Builtin.List.listExtendWith (.ref S) (.ref it) res)
      (fun fin s' => match fin with | .done f => R (.ok f) s' | .again c' => c'.quiet = true ∧ codeAny (model prog w) A c' R s') (fun e s' => R (.error e) s') s := by
  have W := (Walks.listRev (prog := prog) (w := w) (A := A.in1) hh it l hne items).toS
  have hSf : S ∉ [it, l] := by simp only [List.mem_cons, List.not_mem_nil, or_false, not_or]; exact ⟨hSi, hSl⟩
  have hT : s.TypeIs (.ref it) "list_reverseiterator" := hit.typeIs
  have h1 : Builtin.List.listSameRef (.ref S) (.ref it) = false := by simp [Builtin.List.listSameRef, hSi]
  unfold Builtin.List.listExtendWith
  refine wpAny_bind (wpAny_typeOf hT ?_)
  rw [if_neg (by rw [h1]; decide)]
  refine wpAny_bind (wpAny_pyIter_revIter hit ?_)
  refine wpAny_bind (wpAny_holding ?_)
  unfold Builtin.List.listLengthHint
  refine wpAny_bind (wpAny_specialOf hT nolen_lri ?_)
  show wpAny _ A.in1 (specialOf (Value.ref it) (Str.ofString "__length_hint__") >>= _) _ _ _
  refine wpAny_bind (wpAny_specialOf hT hint_lri ?_)
  generalize hid : ("list_reverseiterator.__length_hint__" : String) = id0
  wp_delta
  rw [show splitId id0 = some ("list_reverseiterator", "__length_hint__") from by subst hid; decide +kernel]
  subst hid
  refine wpAny_bind (wpAny_isInstance (b := true) hT (by rw [isSubtype_type]; kernel_rfl) ?_)
  refine wpAny_pure ?_
  rw [if_neg (by decide)]
  have e0 : ((items.size : Nat) : Int) - 1 - ((0 : Nat) : Int) = (items.size : Int) - 1 := by omega
  refine wpAny_pure ⟨plainId_quiet F.plain_extend_loop _, codeAny_extend_loopS W hn _ hSf _ items.size 0 _ _ _ rfl (Nat.zero_le _) ⟨Nat.zero_le _, by rw [e0]; exact hit, hl⟩ hS (ItemsOf.nil _) fun s' acc' c' hm hS' hacc => ?_⟩
  exact hR s' acc' c' hm hS' hacc
theorem list_init_rev {it l : Addr} {items : Array Value} (S : Addr) (hh : A.handled = none) (hit : s.heap.IsRevIter it l ((items.size : Int) - 1)) (hl : s.heap.IsList l items) (hne : l ≠ it) (hn : items.size ≤ sizeLine) (hSi : S ≠ it) (hSl : S ≠ l)
    (hS : s.heap.get? S = some { cls := .type "list", data := .seq #[] })
    (hR : ∀ s' acc' c', Moved (S :: [it]) (fun g g' => g' = g) s s' → s'.heap.get? S = some { cls := .type "list", dict := none, data := .seq acc' c', slots := #[] } → ItemsOf (fun i v => items[items.size - 1 - i]? = some v) acc' items.size → R (.ok (.ret .none)) s') :
    wpAny (model prog w) A.in1 (Builtin.«list.__init__» ⟨[.ref S, .ref it], []⟩)
      (fun fin s' => match fin with | .done f => R (.ok f) s' | .again c' => c'.quiet = true ∧ codeAny (model prog w) A c' R s') (fun e s' => R (.error e) s') s := by
  show wpAny _ A.in1 (do let old ← Builtin.List.listItems (.ref S); Builtin.List.listUpdate (.ref S) (fun _ => #[]); letGo old.toList.reverse; Builtin.List.listExtendWith (.ref S) (.ref it) .none) _ _ s
  refine wpAny_bind ?_
  unfold Builtin.List.listItems
  refine wpAny_bind (wpAny_seqItems hS rfl (wpAny_pure ?_))
  show wpAny _ A.in1 (updateSeq S (fun _ => #[]) >>= fun _ => letGo (#[] : Array Value).toList.reverse >>= fun _ => Builtin.List.listExtendWith (.ref S) (.ref it) .none) _ _ s
  refine wpAny_bind (wpAny_updateSeq hS rfl ?_)
  have hS₂ := Heap.get?_update_self (Obj.mapSeq (fun _ => (#[] : Array Value))) hS rfl
  have oth : ∀ b o, b ≠ S → s.heap.get? b = some o → (s.heap.update S (Obj.mapSeq (fun _ => (#[] : Array Value)))).get? b = some o :=
    fun b o hb e => (Heap.get?_update_other _ _ (Ne.symm hb)).trans e
  refine wpAny_bind (wpAny_letGo ?_)
  refine extend_rev S .none _ hh (hit.at fun o e => oth _ o (Ne.symm hSi) e) (hl.at fun o e => oth _ o (Ne.symm hSl) e) hne hn hSi hSl hS₂ fun s' acc' c' hm hS' hacc => ?_
  exact hR s' acc' c' (Moved.trans (G := fun g g' => g' = g) (fun _ _ _ h1 h2 => h2.trans h1) ((Moved.refl (G := fun g g' => g' = g) (fun _ => rfl)).then_heap (Nat.le_refl _) fun b o hb e => oth b o (fun h => hb (h ▸ List.mem_cons_self)) e) hm) hS' hacc
theorem call_list_rev {it l : Addr} {items : Array Value} {Q : Value → Shared → Prop} (hh : A.handled = none) (hit : s.heap.IsRevIter it l ((items.size : Int) - 1)) (hl : s.heap.IsList l items) (hne : l ≠ it) (hn : items.size ≤ sizeLine)
    (hQ : ∀ s' acc' c', Moved (s.heap.objs.size :: [it]) (fun g g' => g' = g) { s with heap := s.heap.push { cls := .type "list", data := .seq #[] } } s' →
      s'.heap.get? s.heap.objs.size = some { cls := .type "list", dict := none, data := .seq acc' c', slots := #[] } → ItemsOf (fun i v => items[items.size - 1 - i]? = some v) acc' items.size → Q (.ref s.heap.objs.size) s') :
    wpAny (model prog w) A (call (.type "list") [.ref it]) Q E s := by
  refine callType_codes (Q₁ := fun obj s₁ => obj = .ref s.heap.objs.size ∧ s₁ = { s with heap := s.heap.push { cls := .type "list", data := .seq #[] } }) F.called_list (F.typeCall_list_1 _) F.entry_list_init
    (code_list_new _ ⟨rfl, rfl⟩) fun obj s₁ h₁ => ?_
  obtain ⟨rfl, rfl⟩ := h₁
  obtain ⟨oi, hoi, _⟩ := id hit
  obtain ⟨ol, hol, _⟩ := id hl
  have hS : (s.heap.push { cls := .type "list", data := .seq #[] }).get? s.heap.objs.size = some { cls := .type "list", data := .seq #[] } := Heap.get?_push_size _ rfl
  refine ⟨⟨_, hS, rfl⟩, F.args_list_init_2 _ _, list_init_rev (A := A.in1) _ hh (hit.at fun o e => Heap.get?_push_of_some _ e) (hl.at fun o e => Heap.get?_push_of_some _ e) hne hn (Nat.ne_of_gt (Heap.lt_size hoi)) (Nat.ne_of_gt (Heap.lt_size hol)) hS fun s' acc' c' hm hS' hacc => ?_⟩
  exact ⟨rfl, hQ s' acc' c' hm hS' hacc⟩
end
end Bv

namespace Bv
open PySem PySem.Spec L2 PyProof.Rows

/-! ### list(reversed(x)), x a list -/
def tListRev (K : PySem.W.Frag) (te : TE) : TE := fun σ H Q => te σ H fun v H1 => ∃ (a : Addr) (xs : List V), v = .ref a ∧ SqL K H1 a xs ∧ ∀ q, H1 q = none → Q (.ref q) (upd H1 q (.lst xs.reverse))
section
variable {X : Cx} {S : Sx}
theorem pe_listRev {e : Expr} {te : TE} {p p2 pos pos2 : Pos} (hc : X.calm = true) (hg : Gl X "list") (hm : X.mg "list" = none) (hg2 : Gl X "reversed") (hm2 : X.mg "reversed" = none) (he : PE X e te)
    (hs : starEach [e] X.env = (false, eval e X.env) :: starEach [] X.env := by rfl)
    (hs2 : starEach [.Call (.Name "reversed" p2) [e] [] pos2] X.env = (false, eval (.Call (.Name "reversed" p2) [e] [] pos2) X.env) :: starEach [] X.env := by rfl) :
    PE X (.Call (.Name "list" p) [.Call (.Name "reversed" p2) [e] [] pos2] [] pos) (tListRev X.K te) := by
  refine ⟨fun pins s σ H Q I h => ?_⟩
  refine Call_ (ld_blt I hg hm boot_list (PyProof.Rows.callWith_type1 (args_cons (Call_ (ld_blt I hg2 hm2 PyProof.Rows.boot_reversed (PyProof.Rows.callWith_type1 (args_cons (thn (he.run pins s σ H _ I h) fun u s1 ⟨v, H1, I1, r1, q1⟩ => args_nil ?_) hs) hs rfl))) hs2) hs2 rfl))
  obtain ⟨a, xs, ev, hq, q⟩ := q1
  subst ev
  obtain rfl : u = Value.ref a := r1
  obtain ⟨its, rv, p', hz⟩ := I1.list hq
  refine call_reversed_list p'.isList (args_nil ?_)
  have hl := p'.isList
  obtain ⟨ol, hol, _⟩ := id hl
  have hne : a ≠ s1.heap.objs.size := Nat.ne_of_lt (Heap.lt_size hol)
  have hn : its.toArray.size ≤ sizeLine := by rw [List.size_toArray, ← rv.length]; exact hz
  refine call_list_rev (s := { s1 with heap := s1.heap.push (revObj a ((its.toArray.size : Int) - 1)) }) (I1.ok.hd hc) ⟨_, Heap.get?_push_size _ rfl, rfl, rfl⟩ (hl.push _) hne hn fun s' acc c' hm' hS' hi => ?_
  rw [Moved.eq_with hm']
  have hsz : (s1.heap.push (revObj a ((its.toArray.size : Int) - 1))).objs.size = s1.heap.objs.size + 1 := by rw [size_push']
  refine ⟨.ref (s1.heap.push (revObj a ((its.toArray.size : Int) - 1))).objs.size, upd H1 (s1.heap.push (revObj a ((its.toArray.size : Int) - 1))).objs.size (.lst xs.reverse), I1.laid (t' := s'.toks) (fun b o e => ?_) (by rw [hsz]; exact Nat.le_succ _) (show ObjOk X.prog X.w _ _ _ (.lst xs.reverse) from ⟨by rw [List.length_reverse]; exact hz, acc.toList, c', RT.vals_rev rv hi, by rw [Array.toArray_toList]; exact hS'⟩), rfl, q _ (I1.hok.fresh (by rw [hsz]; exact Nat.le_succ _))⟩
  have hb := Heap.lt_size e
  refine hm'.heap b o (fun hmem => ?_) (Heap.get?_push_of_some _ (Heap.get?_push_of_some _ e))
  rcases List.mem_cons.mp hmem with e' | hmem
  · rw [e', hsz] at hb; exact absurd hb (Nat.not_lt.mpr (Nat.le_succ _))
  · rw [List.mem_singleton.mp hmem] at hb; exact absurd hb (Nat.lt_irrefl _)
def dRevF : D → Rv (List D)
  | .list ds => .ok ds.reverse
  | _ => .un
def revF (f : Vw → Rv D) (η : Vw) : Rv (List D) := (f η).bind dRevF
theorem RpA.app {c : Cz} {H : Hp} {vs ws : List V} : ∀ {ds es : List D}, RpA c H vs ds → RpA c H ws es → RpA c H (vs ++ ws) (ds ++ es) := by
  induction vs with
  | nil => intro ds es h1 h2; cases h1; exact h2
  | cons v vs ih => intro ds es h1 h2; cases h1 with | cons a b => exact .cons a (ih b h2)
theorem RpA.rev {c : Cz} {H : Hp} {vs : List V} : ∀ {ds : List D}, RpA c H vs ds → RpA c H vs.reverse ds.reverse := by
  induction vs with
  | nil => intro ds h1; cases h1; exact .nil
  | cons v vs ih => intro ds h1; cases h1 with | cons a b => rw [List.reverse_cons, List.reverse_cons]; exact RpA.app (ih b) (.cons a .nil)
theorem sf_listRev {e : Expr} {f : Vw → Rv D} {p p2 pos pos2 : Pos} (hm : S.mg "list" = none) (hm2 : S.mg "reversed" = none) (he : SemE S e f) (hg : S.sc.names.lookup ("list" : Str) = some .globalImplicit := by rfl) (hg2 : S.sc.names.lookup ("reversed" : Str) = some .globalImplicit := by rfl)
    (hs : ∀ env, starEach [e] env = (false, eval e env) :: starEach [] env := by intro _; rfl)
    (hs2 : ∀ env, starEach [.Call (.Name "reversed" p2) [e] [] pos2] env = (false, eval (.Call (.Name "reversed" p2) [e] [] pos2) env) :: starEach [] env := by intro _; rfl) :
    SemF S (.Call (.Name "list" p) [.Call (.Name "reversed" p2) [e] [] pos2] [] pos) (revF f) := by
  obtain ⟨t, pa, q⟩ := he.ex
  refine ⟨⟨tListRev S.K t, fun X hX => ?_, fun η σ H Z Q z hη h => ?_⟩⟩
  · rw [← hX.hK]
    exact pe_listRev hX.calm (by show X.env.scope.names.lookup _ = _; rw [hX.hsc]; exact hg) (by rw [hX.hmg]; exact hm) (by show X.env.scope.names.lookup _ = _; rw [hX.hsc]; exact hg2) (by rw [hX.hmg]; exact hm2) (pa X hX) (hs _) (hs2 _)
  · refine q η σ H Z _ z hη (Post.bind h fun d v H1 _ e1 r1 h1 => ?_)
    cases r1 with
    | @lst a xs ds h2 h3 => exact ⟨a, xs, rfl, ((Gr.hid_le H1 Z).rdl h2).sq, fun l hl => h1 (l, _) H1 (Gr.refl H1) (RpA.rev h3) hl⟩
    | _ => exact False.elim h1

/-! ### sum of a tuple or of a list -/
def dSum : List D → Rv D
  | [.list xs] => match intsOf xs with | some ns => .ok (.int ns.sum) | none => .un
  | [.tuple xs] => match intsOf xs with | some ns => .ok (.int ns.sum) | none => .un
  | _ => .un
theorem dSum_t (ns : List Int) : dSum [.tuple (ns.map .int)] = .ok (.int ns.sum) := by
  show (match intsOf (ns.map .int) with | some ns => Rv.ok (PyData.int ns.sum) | none => .un) = _
  rw [intsOf_map]
theorem dSum_l (ns : List Int) : dSum [.list (ns.map .int)] = .ok (.int ns.sum) := by
  show (match intsOf (ns.map .int) with | some ns => Rv.ok (PyData.int ns.sum) | none => .un) = _
  rw [intsOf_map]
def rSumA (K : PySem.W.Frag) : List V → Hp → VK → Prop := fun vs H Q => ∃ (a : Addr) (ns : List Int), vs = [V.ref a] ∧ (SqL K H a (ns.map V.int) ∨ SqT K H a (ns.map V.int)) ∧ Q (.int ns.sum) H
theorem call_sumA (hc : X.calm = true) : CallR X (.builtin "sum") (rSumA X.K) := by
  intro pins s σ H vs us Q I r h
  obtain ⟨a, ns, rfl, hs | hs, q⟩ := h
  · exact cr_sum hc pins s σ H _ us Q I r ⟨a, ns, rfl, hs, q⟩
  · obtain ⟨its, rv, hl, _⟩ := I.tuple hs
    rw [Vals.ref1 r]
    have hi := rv.ints
    obtain ⟨xs, e⟩ := hi.allInts.items
    have hn : numsOf (intItems xs).toList = ns := by rw [← e]; exact hi.numsOf
    rw [nums_intItems] at hn
    have hT : s.heap.IsTuple a its.toArray := hl
    rw [e] at hT
    refine PySem.W.ktm_sumG (I.ok.hd hc) hT fun h' tk t' hk => ?_
    rw [preSum_eq, List.take_of_length_le (by simp), hn]
    exact ⟨.int _, H, I.kept hk, ⟨_, rfl⟩, q⟩
theorem on_sum : OpN S (rSumA S.K) dSum := by
  intro xs ds H Z Q σ z r h
  cases r with
  | nil => exact False.elim h
  | cons r1 r2 =>
    cases r2 with
    | cons _ _ => cases r1 <;> exact False.elim h
    | nil =>
      cases r1 with
      | @lst a vs ds h1 h2 =>
        have hh : Post S (RE S) σ Z H Q (match intsOf ds with | some ns => .ok (.int ns.sum) | none => .un) := h
        cases e : intsOf ds with
        | none => rw [e] at hh; exact False.elim hh
        | some ns =>
          rw [e] at hh
          obtain rfl := intsOf_eq e
          obtain rfl := RpA.isInts h2
          exact ⟨a, ns, rfl, .inl ((Gr.hid_le H Z).rdl h1).sq, Post.ok (R := RE S) hh (.int _)⟩
      | @tup a vs ds h1 h2 =>
        have hh : Post S (RE S) σ Z H Q (match intsOf ds with | some ns => .ok (.int ns.sum) | none => .un) := h
        cases e : intsOf ds with
        | none => rw [e] at hh; exact False.elim hh
        | some ns =>
          rw [e] at hh
          obtain rfl := intsOf_eq e
          obtain rfl := RpA.isInts h2
          exact ⟨a, ns, rfl, .inr ((Gr.hid_le H Z).sqT h1), Post.ok (R := RE S) hh (.int _)⟩
      | _ => exact False.elim h
end
end Bv


/-! ### texts in a row, any number of them -/
namespace SrtB
open SrtO hiding Str
open PySem PyProof.Rows Srt
section
variable {prog : Program} {w : World} {A : Around} {E : Value → Shared → Prop} {s : Shared}
def tv : Value → Str
  | .str x _ => x
  | _ => default
def ltTv (v u : Value) : Bool := decide ((tv v).cps.toList < (tv u).cps.toList)
theorem cps_tot {a b : List Nat} (h1 : ¬ a < b) (h2 : ¬ b < a) : a = b := List.le_antisymm (List.not_lt.mp h2) (List.not_lt.mp h1)
theorem swo_str : Swo ltTv := by
  refine ⟨fun x y h => ?_, fun x y z h1 h2 => ?_⟩
  · have a := of_decide_eq_true (p := (tv x).cps.toList < (tv y).cps.toList) h
    exact decide_eq_false (p := (tv y).cps.toList < (tv x).cps.toList) (List.lt_asymm a)
  · have a := of_decide_eq_false (p := (tv y).cps.toList < (tv x).cps.toList) h1
    have b := of_decide_eq_false (p := (tv z).cps.toList < (tv y).cps.toList) h2
    exact decide_eq_false (p := (tv z).cps.toList < (tv x).cps.toList) (List.not_lt.mpr (List.le_trans (List.not_lt.mp a) (List.not_lt.mp b)))
theorem strs_mem : ∀ {vs : List Value} {ns : List Str}, StrsAre vs ns → ∀ v ∈ vs, ∃ i t, v = Value.str i t
  | _, _, .nil, v, h => absurd h (by simp)
  | _, _, .cons n t r, v, h => by
    rcases List.mem_cons.mp h with e | h
    · exact ⟨n, t, e⟩
    · exact strs_mem r v h
theorem strs_tv : ∀ {vs : List Value}, (∀ v ∈ vs, ∃ i t, v = Value.str i t) → StrsAre vs (vs.map tv)
  | [], _ => .nil
  | v :: vs, h => by
    obtain ⟨i, t, e⟩ := h v List.mem_cons_self
    subst e
    exact .cons i t (strs_tv fun u hu => h u (List.mem_cons_of_mem _ hu))
theorem tv_strs : ∀ {vs : List Value} {ns : List Str}, StrsAre vs ns → vs.map tv = ns
  | _, _, .nil => rfl
  | _, _, .cons n t r => congrArg (n :: ·) (tv_strs r)
theorem str_cmp {vs : List Value} {ns : List Str} (hI : StrsAre vs ns) : Cmp prog w A s oneType' (fun p => p.1 ∈ vs) (lt2 ltTv) := by
  intro p q hm hm'
  obtain ⟨a, t, e⟩ := strs_mem hI _ hm
  obtain ⟨b, u, e'⟩ := strs_mem hI _ hm'
  show wpAny (model prog w) A (keyLt' oneType' p.1 q.1) (fun r s' => s' = s ∧ r = ltTv p.1 q.1) (fun _ _ => False) s
  rw [e, e', keyLt'_oneType]
  exact oneLt_str ⟨rfl, rfl⟩
theorem strs_sortable {a : Addr} {vs : List Value} {ns : List Str} (hI : StrsAre vs ns) (h2 : 2 ≤ vs.length) : SortableO prog w A s a vs ltTv := by
  intro h' _
  refine ⟨oneType', fun Q E hq => ?_, str_cmp hI⟩
  match vs, hI, h2 with
  | v1 :: v2 :: rest, hI, _ =>
    rw [keyKind_strs hI]
    exact wpAny_pure hq
  | [], _, h => exact absurd h (by decide)
  | [v], _, h => exact absurd h (by simp)
theorem strs_out {vs out : List Value} {ns : List Str} (hI : StrsAre vs ns) (hs : Srtd ltTv out) (hb : Stb ltTv out vs) : StrsAre out (out.map tv) ∧ (out.map tv).Perm ns ∧ (out.map tv).Pairwise (fun x y => ¬ y.cps.toList < x.cps.toList) := by
  refine ⟨strs_tv fun v hv => strs_mem hI v (hb.perm.mem_iff.mp hv), ?_, ?_⟩
  · have q := hb.perm.map tv
    rw [tv_strs hI] at q
    exact q
  · exact List.pairwise_map.mpr (hs.imp fun {x y} h => of_decide_eq_false (p := (tv y).cps.toList < (tv x).cps.toList) h)
end
end SrtB
namespace Bv
open PySem PySem.Spec L2 PyProof.Rows
def sortS (ns : List Str) : List Str := ns.mergeSort fun a b => !decide (b.cps.toList < a.cps.toList)
theorem sortS_perm (ns : List Str) : (sortS ns).Perm ns := List.mergeSort_perm _ _
theorem sortS_pw (ns : List Str) : (sortS ns).Pairwise (fun x y => ¬ y.cps.toList < x.cps.toList) := by
  have := List.pairwise_mergeSort (le := fun a b : Str => !decide (b.cps.toList < a.cps.toList)) (fun a b c h1 h2 => by
    simp only [Bool.not_eq_true', decide_eq_false_iff_not] at *
    exact List.not_lt.mpr (List.le_trans (List.not_lt.mp h1) (List.not_lt.mp h2))) (fun a b => by
    simp only [Bool.or_eq_true, Bool.not_eq_true', decide_eq_false_iff_not]
    by_cases q : b.cps.toList < a.cps.toList
    · exact .inr (List.lt_asymm q)
    · exact .inl q) ns
  exact this.imp fun {a b} h => by simpa using h
theorem str_tot {a b : Str} (h1 : ¬ a.cps.toList < b.cps.toList) (h2 : ¬ b.cps.toList < a.cps.toList) : a = b := by
  have := SrtB.cps_tot h1 h2
  cases a; cases b
  simp only [Array.toList_inj] at this
  rw [this]
theorem sortedS_unique : ∀ {xs ys : List Str}, xs.Perm ys → xs.Pairwise (fun x y => ¬ y.cps.toList < x.cps.toList) → ys.Pairwise (fun x y => ¬ y.cps.toList < x.cps.toList) → xs = ys
  | [], ys, p, _, _ => by rw [List.nil_perm.mp p]
  | x :: xs, [], p, _, _ => by simpa using p.length_eq
  | x :: xs, y :: ys, p, h1, h2 => by
    have e : x = y := by
      rcases List.mem_cons.mp (p.mem_iff.mp List.mem_cons_self) with e | hx
      · exact e
      · rcases List.mem_cons.mp (p.mem_iff.mpr (List.mem_cons_self (a := y))) with e | hy
        · exact e.symm
        · exact str_tot ((List.pairwise_cons.mp h2).1 x hx) ((List.pairwise_cons.mp h1).1 y hy)
    subst e
    rw [sortedS_unique (List.Perm.cons_inv p) (List.pairwise_cons.mp h1).2 (List.pairwise_cons.mp h2).2]
theorem sortS_eq {xs ys : List Str} (p : xs.Perm ys) : sortS xs = sortS ys := sortedS_unique ((sortS_perm xs).trans (p.trans (sortS_perm ys).symm)) (sortS_pw xs) (sortS_pw ys)
section
variable {X : Cx} {S : Sx}
/-- sorted(d), d a dict of texts, any number of them -/
def rSortedDA : List V → Hp → VK → Prop := fun xs H Q => ∃ (a : Addr) (kvs : List (Key × V)) (ks : List Str), xs = [.ref a] ∧ Rd H a (.dK kvs) ∧ kvs.map (·.1) = ks.map Sum.inr ∧ ∀ p, H p = none → Q (.ref p) (upd H p (.lst ((sortS ks).map V.str)))
/-- sorted(x), x a list of texts, any number of them -/
def rSortedSA (K : PySem.W.Frag) : List V → Hp → VK → Prop := fun vs H Q => ∃ (a : Addr) (ks : List Str), vs = [V.ref a] ∧ SqL K H a (ks.map V.str) ∧ ∀ p, H p = none → Q (.ref p) (upd H p (.lst ((sortS ks).map V.str)))
theorem call_sortedSA : CallR X (.builtin "sorted") (rSortedSA X.K) := by
  intro pins s σ H vs us Q I r h
  obtain ⟨a, ks, rfl, hs, q⟩ := h
  obtain ⟨its, rv, hl, hz⟩ := I.list hs
  rw [Vals.ref1 r]
  have hi := rv.strs
  refine SrtO.sorted_ord SrtB.swo_str hl.isList (by rw [← rv.length]; exact hz) (fun h2 h₁ a' _ _ => SrtB.strs_sortable hi h2) fun out h1 h2 => ?_
  obtain ⟨k1, k2, k3⟩ := SrtB.strs_out hi h1 h2
  obtain ⟨ep, he'⟩ := PyProof.Rows.sortedAll_at s.heap its out.toArray
  rw [sortedS_unique (k2.trans (sortS_perm ks).symm) k3 (sortS_pw ks)] at k1
  have hlen : ((sortS ks).map V.str).length ≤ sizeLine := by
    rw [List.length_map, (sortS_perm ks).length_eq]
    rw [List.length_map] at hz
    exact hz
  exact ⟨.ref _, upd H (s.heap.objs.size + 1) (.lst ((sortS ks).map V.str)), I.laid (t' := s.toks) (fun _ _ => PyProof.Rows.sortedAll_old) (Nat.le_succ _) ⟨hlen, out, ep, vals_of_strs k1, he'⟩, rfl, q _ (I.hok.fresh (Nat.le_succ _))⟩
theorem call_sortedDA (hcalm : X.calm = true) : CallR X (.builtin "sorted") rSortedDA := by
  intro pins s σ H xs us Q I r q
  obtain ⟨a, kvs, ks, ex, hd, hks, q⟩ := q
  subst ex
  obtain ⟨u, eu, rx⟩ := vals1 r
  subst eu
  cases rx
  obtain ⟨z, lo, vs, rel, dd⟩ := dk_rd I.hok hd
  obtain ⟨ep, hat⟩ := dd.dictAt
  have hkeys : vs.map (·.1) = ks.map Sum.inr := rel.keys.symm.trans hks
  have hl : vs.length = ks.length := by
    have e := congrArg List.length hkeys
    rw [List.length_map, List.length_map] at e
    exact e
  have h16 : vs.length ≤ sizeLine := by rw [← rel.length]; exact z
  refine Calls.call_function_entry PyProof.Rows.kind_sorted PyProof.Rows.plain_sorted PyProof.Rows.entry_sorted (PyProof.Rows.args_sorted1 _) ?_
  unfold Builtin.«sorted»
  refine wpAny_bind (m := checkCount "sorted" 1 1 _) (wpAny_pure ?_)
  refine wpAny_bind (PySem.W.kdu_collect (A := X.A.in1) (PySem.W.kdl_dict (knd := mixKind X.prog X.w) (kvs := vs) (ep := ep) lo) (I.ok.hd hcalm) hat h16 fun h' tk acc hk hacc => ?_)
  have hal : acc.toList.length = ks.length := by rw [Array.length_toList, hacc.1, hl]
  have hS : StrsAre acc.toList ks := strs_at hal fun j v e => by
    obtain ⟨k, x, e1, e2⟩ := hacc.2 j v (by rw [← Array.getElem?_toList]; exact e)
    have e3 : (vs.map (·.1))[j]? = some k := by rw [List.getElem?_map, e1]; all_goals rfl
    rw [hkeys, List.getElem?_map] at e3
    cases e4 : ks[j]? with
    | none => rw [e4] at e3; cases e3
    | some y =>
      rw [e4] at e3
      have e5 : Sum.inr y = k := Option.some.inj e3
      subst e5
      obtain ⟨t, ev⟩ := Value.isStrOf_shape (x := y) (v := v) e2
      exact ⟨y, t, rfl, ev⟩
  have I1 : Inv X pins σ H { s with heap := h', toks := tk } := I.kept hk
  have hz' : acc.toList.length ≤ sizeLine := by rw [hal, ← hl]; exact h16
  refine wpAny_bind (wpAny_newList ?_ hz')
  have hoL : (h'.push (seqObj "list" acc.toList.toArray 0)).get? h'.objs.size = some (seqObj "list" acc.toList.toArray 0) := Heap.get?_push_size _ rfl
  show wpAny _ _ _ _ _ { s with heap := h'.push (seqObj "list" acc.toList.toArray 0), toks := tk }
  refine wpAny_bind (wpAny_holding (wpAny_call_entry PyProof.Rows.slot_list_sort ⟨_, hoL, rfl⟩ PyProof.Rows.entry_list_sort
    (SrtO.list_sort_ord (s := { s with heap := h'.push (seqObj "list" acc.toList.toArray 0), toks := tk }) SrtB.swo_str hoL hz' (fun h2 => SrtB.strs_sortable hS h2) fun out h1 h2 => ⟨_, rfl, ?_⟩)
    (PyProof.Rows.args_list_sort _)))
  obtain ⟨k1, k2, k3⟩ := SrtB.strs_out hS h1 h2
  rw [sortedS_unique (k2.trans (sortS_perm ks).symm) k3 (sortS_pw ks)] at k1
  obtain ⟨e', he'⟩ := PyProof.Rows.sortedHeap_at (vs := acc.toList) (out := out.toArray) hoL
  have hlen : ((sortS ks).map V.str).length ≤ sizeLine := by
    rw [List.length_map, (sortS_perm ks).length_eq, ← hl]
    exact h16
  refine wpAny_pure ⟨_, rfl, .ref h'.objs.size, upd H h'.objs.size (.lst ((sortS ks).map V.str)), I1.laid (t' := tk) (fun b u e => ?_) (Nat.le_refl _)
    (show ObjOk X.prog X.w _ _ _ (.lst ((sortS ks).map V.str)) from ⟨hlen, out, e', vals_of_strs k1, he'⟩), rfl, q _ (I1.hok.fresh (Nat.le_refl _))⟩
  have hb : b < h'.objs.size := Heap.lt_size e
  rw [PyProof.Rows.sortedHeap_old (Nat.ne_of_lt hb) (by rw [size_push']; exact Nat.lt_succ_of_lt hb)]
  exact Heap.get?_push_of_some _ e
def strsOf : List D → Option (List Str)
  | [] => some []
  | .str x :: r => (strsOf r).map (x :: ·)
  | _ => none
theorem strsOf_map : ∀ (ns : List Str), strsOf (ns.map .str) = some ns
  | [] => rfl
  | n :: ns => by rw [List.map_cons, strsOf, strsOf_map ns]; rfl
theorem strsOf_eq : ∀ {xs : List D} {ns : List Str}, strsOf xs = some ns → xs = ns.map .str
  | [], ns, h => by cases h; rfl
  | d :: ds, ns, h => by
    cases d with
    | str x =>
      have h : (strsOf ds).map (x :: ·) = some ns := h
      cases e : strsOf ds with
      | none => rw [e] at h; cases h
      | some m => rw [e] at h; cases h; rw [strsOf_eq e]; rfl
    | _ => cases h
theorem RpA.ofStrs {c : Cz} {H : Hp} : ∀ ns : List Str, RpA c H (ns.map V.str) (ns.map .str)
  | [] => .nil
  | n :: ns => .cons (.str n) (RpA.ofStrs ns)
theorem RpA.isStrs {c : Cz} {H : Hp} {vs : List V} : ∀ {ns : List Str}, RpA c H vs (ns.map .str) → vs = ns.map V.str := by
  induction vs with
  | nil =>
    intro ns h
    cases ns with
    | nil => rfl
    | cons n ns => cases h
  | cons v vs ih =>
    intro ns h
    cases ns with
    | nil => cases h
    | cons n ns =>
      cases h with
      | cons h1 h2 =>
        cases h1
        rw [ih h2]
        rfl
def dSortedA : List D → Rv (List D)
  | [.list xs] => match intsOf xs with
    | some ns => .ok ((sortI ns).map .int)
    | none => match strsOf xs with
      | some ks => .ok ((sortS ks).map .str)
      | none => .un
  | [.dict ((.none, .int m) :: ds)] => if m = 0 then match strsOf (ds.map (·.1)) with
      | some ks => .ok ((sortS ks).map .str)
      | none => .un
    else .un
  | _ => .un
theorem dSortedA_i (ns : List Int) : dSortedA [.list (ns.map .int)] = .ok ((sortI ns).map .int) := by
  unfold dSortedA
  simp only [intsOf_map]
theorem dSortedA_d (ks : List Str) (ds : List (D × D)) (h : ds.map (·.1) = ks.map .str) : dSortedA [.dict ((.none, .int 0) :: ds)] = .ok ((sortS ks).map .str) := by
  unfold dSortedA
  simp only [h, strsOf_map, if_true]
theorem RpK.keysS {c : Cz} {H : Hp} : ∀ {ds : List (D × D)} {kvs : List (Key × V)} {ks : List Str}, RpK c H kvs ds → ds.map (·.1) = ks.map .str → kvs.map (·.1) = ks.map Sum.inr
  | [], _, ks, h, e => by
    cases h
    cases ks with
    | nil => rfl
    | cons k ks => cases e
  | (e0, d) :: ds, _, ks, h, e => by
    cases h with
    | @cons k v vs _ _ h1 h2 =>
      cases ks with
      | nil => cases e
      | cons k' ks =>
        rw [List.map_cons, List.map_cons] at e
        injection e with e1 e2
        rw [List.map_cons, List.map_cons, RpK.keysS h2 e2]
        cases k with
        | inl i => cases e1
        | inr x => cases e1; rfl
def rSortedA (K : PySem.W.Frag) : List V → Hp → VK → Prop := fun xs H Q => rSortedI K xs H Q ∨ rSortedSA K xs H Q ∨ rSortedDA xs H Q
theorem call_sortedA (hc : X.calm = true) : CallR X (.builtin "sorted") (rSortedA X.K) := cr_sortedI.or (call_sortedSA.or (call_sortedDA hc))
theorem on_sortedA : OpNF S (rSortedA S.K) dSortedA := by
  intro xs ds H Z Q σ z r h
  cases r with
  | nil => exact False.elim h
  | cons r1 r2 =>
    cases r2 with
    | cons _ _ => cases r1 <;> exact False.elim h
    | nil =>
      cases r1 with
      | @lst a vs ds h1 h2 =>
        have hh : Post S (fun H' (p : Addr × List V) ds => RpA S.c H' p.2 ds) σ Z H (fun p H' => H' p.1 = none → Q (.ref p.1) (upd H' p.1 (.lst p.2))) (match intsOf ds with | some ns => .ok ((sortI ns).map .int) | none => match strsOf ds with | some ks => .ok ((sortS ks).map .str) | none => .un) := h
        cases e : intsOf ds with
        | none =>
          rw [e] at hh
          cases e2 : strsOf ds with
          | none => rw [e2] at hh; exact False.elim hh
          | some ks =>
            rw [e2] at hh
            clear h
            obtain rfl := strsOf_eq e2
            obtain rfl := RpA.isStrs h2
            exact .inr (.inl ⟨a, ks, rfl, ((Gr.hid_le H Z).rdl h1).sq, fun p hp => hh (p, (sortS ks).map V.str) H (Gr.refl H) (RpA.ofStrs _) hp⟩)
        | some ns =>
          rw [e] at hh
          clear h
          obtain rfl := intsOf_eq e
          obtain rfl := RpA.isInts h2
          refine .inl ⟨a, ns, rfl, ((Gr.hid_le H Z).rdl h1).sq, fun ns' p k1 k2 hp => ?_⟩
          have e2 : ns' = sortI ns := sorted_unique (k1.trans (sortI_perm ns).symm) k2 (sortI_pw ns)
          subst e2
          exact hh (p, (sortI ns).map V.int) H (Gr.refl H) (RpA.ofInts _) hp
      | @dctK a kvs ds h1 h2 =>
        have hh : Post S (fun H' (p : Addr × List V) ds => RpA S.c H' p.2 ds) σ Z H (fun p H' => H' p.1 = none → Q (.ref p.1) (upd H' p.1 (.lst p.2))) (match strsOf (ds.map (·.1)) with | some ks => .ok ((sortS ks).map .str) | none => .un) := h
        cases e : strsOf (ds.map (·.1)) with
        | none => rw [e] at hh; exact False.elim hh
        | some ks =>
          rw [e] at hh
          clear h
          exact .inr (.inr ⟨a, kvs, ks, rfl, (Gr.hid_le H Z).rd h1, RpK.keysS h2 (strsOf_eq e), fun p hp => hh (p, (sortS ks).map V.str) H (Gr.refl H) (RpA.ofStrs _) hp⟩)
      | _ => exact False.elim h
end
end Bv

namespace Bv
open PySem PySem.Spec L2 PyProof.Rows

/-! ### min of a tuple or of a list of whole numbers -/
def minI : Int → List Int → Int
  | n, [] => n
  | n, m :: ms => minI (if m < n then m else n) ms
theorem minI_spec : ∀ (n : Int) (ms : List Int), minI n ms ∈ n :: ms ∧ ∀ a ∈ n :: ms, minI n ms ≤ a
  | n, [] => ⟨by simp [minI], by simp [minI]⟩
  | n, m :: ms => by
    obtain ⟨h1, h2⟩ := minI_spec (if m < n then m else n) ms
    unfold minI
    refine ⟨?_, fun a ha => ?_⟩
    · rcases List.mem_cons.mp h1 with e | h
      · rw [e]; split <;> simp
      · exact List.mem_cons_of_mem _ (List.mem_cons_of_mem _ h)
    · have h0 : minI (if m < n then m else n) ms ≤ (if m < n then m else n) := h2 _ List.mem_cons_self
      have h3 : (if m < n then m else n) ≤ n ∧ (if m < n then m else n) ≤ m := by split <;> omega
      rcases List.mem_cons.mp ha with e | ha
      · subst e; exact Int.le_trans h0 h3.1
      · rcases List.mem_cons.mp ha with e | ha
        · subst e; exact Int.le_trans h0 h3.2
        · exact h2 a (List.mem_cons_of_mem _ ha)
theorem minI_eq {n M : Int} {ms : List Int} (h1 : M ∈ n :: ms) (h2 : ∀ a ∈ n :: ms, M ≤ a) : M = minI n ms := by
  obtain ⟨k1, k2⟩ := minI_spec n ms
  exact Int.le_antisymm (h2 _ k1) (k2 _ h1)
section
variable {prog : Program} {w : World} {A : Around} {E : Value → Shared → Prop} {s : Shared} {l : Addr} {its : List Value} {ns : List Int}
theorem min_rawT {Q : Value → Shared → Prop} (hh : A.handled = none) (hl : s.heap.IsTuple l its.toArray) (hi : IntsAre its ns) (hne : 0 < ns.length)
    (h : ∀ h' tk M t', (∀ b o, s.heap.get? b = some o → h'.get? b = some o) → M ∈ ns → (∀ a, a ∈ ns → M ≤ a) → Q (.int M t') { s with heap := h', toks := tk }) : wpAny (model prog w) A (call (.builtin "min") [.ref l]) Q E s := by
  obtain ⟨xs, e⟩ := hi.allInts.items
  have hn : numsOf (intItems xs).toList = ns := by rw [← e]; exact hi.numsOf
  rw [nums_intItems] at hn
  subst hn
  rw [e] at hl
  have hsz : 0 < xs.size := by simpa using hne
  obtain ⟨o, ho, _⟩ := id hl
  have hlt : l < s.heap.objs.size := Heap.lt_size ho
  refine call_min_walk (wpAny_pyIter_tuple hl ?_)
  refine ⟨_, [_, l], [_], _, _, _, _, rfl, Walks.tuple (A := A.in1) hh _ l (Nat.ne_of_lt hlt) (intItems xs), ⟨⟨_, Heap.get?_push_size _ rfl, rfl, rfl⟩, hl.push _⟩, fun d hd => ?_, by simpa [intItems] using hsz, CmpOf.ints_lt (numAt xs) (fun _ _ => intItems_at), fun v h' tk hP hk => ?_⟩
  · show d < (s.heap.push _).objs.size
    rw [Heap.size_push]
    rcases List.mem_cons.mp hd with rfl | hd
    · exact Nat.lt_succ_self _
    · rcases List.mem_cons.mp hd with rfl | hd
      · exact Nat.lt_succ_of_lt hlt
      · cases hd
  · have hP' : (intItems xs)[argBest (fun i j => decide (numAt xs i < numAt xs j)) (xs.size - 1)]? = some v := by simpa [intItems] using hP
    obtain ⟨t, rfl⟩ := intItems_at hP'
    obtain ⟨h1, h2⟩ := argBest_lt (numAt xs) (xs.size - 1)
    refine h h' tk _ t (fun d o e => ?_) ?_ fun a ha => ?_
    · refine hk d o (fun hm => ?_) (Heap.get?_push_of_some _ e)
      rcases List.mem_cons.mp hm with e1 | hm
      · have := Heap.lt_size e; rw [e1] at this; exact Nat.lt_irrefl _ this
      · cases hm
    · rw [numAt_eq]; exact PySem.getD_mem (by rw [List.length_map, Array.length_toList]; omega)
    · obtain ⟨j, hj, rfl⟩ := mem_getD ha
      rw [List.length_map, Array.length_toList] at hj
      rw [← numAt_eq]; exact h2 j (by omega)
end
def dMinS : List D → Rv D
  | [.list xs] => match intsOf xs with | some (n :: ns) => .ok (.int (minI n ns)) | _ => .un
  | [.tuple xs] => match intsOf xs with | some (n :: ns) => .ok (.int (minI n ns)) | _ => .un
  | _ => .un
theorem dMinS_t (n : Int) (ns : List Int) : dMinS [.tuple ((n :: ns).map .int)] = .ok (.int (minI n ns)) := by
  show (match intsOf ((n :: ns).map .int) with | some (n :: ns) => Rv.ok (PyData.int (minI n ns)) | _ => .un) = _
  rw [intsOf_map]
def rMinA (K : PySem.W.Frag) : List V → Hp → VK → Prop := fun vs H Q => ∃ (a : Addr) (n : Int) (ns : List Int), vs = [V.ref a] ∧ (SqL K H a ((n :: ns).map V.int) ∨ SqT K H a ((n :: ns).map V.int)) ∧ Q (.int (minI n ns)) H
section
variable {X : Cx} {S : Sx}
theorem call_minA (hc : X.calm = true) : CallR X (.builtin "min") (rMinA X.K) := by
  intro pins s σ H vs us Q I r h
  obtain ⟨a, n, ns, rfl, hs | hs, q⟩ := h
  · exact cr_min hc pins s σ H _ us Q I r ⟨a, n :: ns, rfl, hs, by simp, fun m h1 h2 => by rw [minI_eq h1 h2]; exact q⟩
  · obtain ⟨its, rv, hl, _⟩ := I.tuple hs
    rw [Vals.ref1 r]
    exact min_rawT (I.ok.hd hc) hl rv.ints (by simp) fun h' tk m t' hk h1 h2 => ⟨.int _, H, I.kept hk, ⟨_, rfl⟩, by rw [minI_eq h1 h2]; exact q⟩
theorem on_minS : OpN S (rMinA S.K) dMinS := by
  intro xs ds H Z Q σ z r h
  cases r with
  | nil => exact False.elim h
  | cons r1 r2 =>
    cases r2 with
    | cons _ _ => cases r1 <;> exact False.elim h
    | nil =>
      cases r1 with
      | @lst a vs ds h1 h2 =>
        have hh : Post S (RE S) σ Z H Q (match intsOf ds with | some (n :: ns) => .ok (.int (minI n ns)) | _ => .un) := h
        cases e : intsOf ds with
        | none => rw [e] at hh; exact False.elim hh
        | some ns =>
          rw [e] at hh
          obtain rfl := intsOf_eq e
          obtain rfl := RpA.isInts h2
          cases ns with
          | nil => exact False.elim hh
          | cons n ns => exact ⟨a, n, ns, rfl, .inl ((Gr.hid_le H Z).rdl h1).sq, Post.ok (R := RE S) hh (.int _)⟩
      | @tup a vs ds h1 h2 =>
        have hh : Post S (RE S) σ Z H Q (match intsOf ds with | some (n :: ns) => .ok (.int (minI n ns)) | _ => .un) := h
        cases e : intsOf ds with
        | none => rw [e] at hh; exact False.elim hh
        | some ns =>
          rw [e] at hh
          obtain rfl := intsOf_eq e
          obtain rfl := RpA.isInts h2
          cases ns with
          | nil => exact False.elim hh
          | cons n ns => exact ⟨a, n, ns, rfl, .inr ((Gr.hid_le H Z).sqT h1), Post.ok (R := RE S) hh (.int _)⟩
      | _ => exact False.elim h
end
end Bv

namespace Bv
open PySem PySem.Spec L2 PyProof.Rows
/-- a whole number by its global name -/
def GInt (T : Wd) (x : Str) (i : Int) : Prop := ∃ t, T.mg x = some (.int i t)
section
variable {S : Sx}
theorem se_gint {x : Str} {i : Int} {pos : Pos} (hm : GInt S.toWd x i) (hg : S.sc.names.lookup x = some .globalImplicit := by rfl) (hd : (x == ("__debug__" : Str)) = false := by decide) : SemE S (.Name x pos) (cst (.int i)) := by
  refine ⟨⟨tC (.int i), fun X hX => ?_, fun η σ H Z Q z hη h => ?_⟩⟩
  · obtain ⟨t, ht⟩ := hm
    exact pe_glob (by show X.env.scope.names.lookup x = _; rw [hX.hsc]; exact hg) (by rw [hX.hmg]; exact ht) ⟨_, rfl⟩ hd
  · exact Post.ok (R := RE S) h (.int i)
end
end Bv

namespace Bv
open PySem PySem.Spec L2 PyProof.Rows

/-! ### a walk over a dict's keys, nested tuples -/
def ItN (a : Addr) (o : Obj) (ks : List Addr) : It := ⟨fun i H => i < ks.length ∧ H a = some (rawO a o), fun i H x H' => H' = H ∧ ∃ b, ks[i]? = some b ∧ x = .ref b, fun i H => ks.length ≤ i ∧ H a = some (rawO a o)⟩
theorem turn_ItN {P : Program} {w : World} {K : PySem.W.Frag} {mg : Str → Option Value} {tg : Expr} {a it : Addr} {o : Obj} {xs : List (NestedKey × Addr × V)} {es : Array DictEntry} {ep : Nat} {us : List (NestedKey × Addr × Value)} (hd : o.data = .dict es ep) (hp : Paired EnR xs us) (he : es.toList = us.map (entryOfKey (nestedKind P w))) :
    Turn P w K tg (ItN a o (xs.map (·.2.1))) [it] it (fun i h => i ≤ xs.length ∧ h.IsKeyIter it a i xs.length ep) where
  mem := by simp
  obj := fun i h st b hb => by
    have e : b = it := by simpa using hb
    subst e
    obtain ⟨_, o, e, c, d⟩ := st
    exact ⟨o, e, fun v z => by rw [d] at z; cases z⟩
  keep := fun i h h' st k => ⟨st.1, st.2.at fun o e => k it (by simp) o e⟩
  item := by
    intro X hP hw hK hc i pins s σ H E I hf st hg
    subst hP hw hK
    obtain ⟨hin, ha⟩ := hg
    rw [List.length_map] at hin
    obtain ⟨f0, f1, f2, f3, f4, f5⟩ := hf it (by simp)
    obtain ⟨_, hit⟩ := st
    have hl := Paired.length hp
    have hsz : es.size = xs.length := by rw [← Array.length_toList, he, List.length_map, hl]
    have hx : xs[i]? = some xs[i] := List.getElem?_eq_getElem hin
    obtain ⟨u, hu, r1, r2, r3⟩ := paired_get hp hx
    have hen : es[i]? = some (entryOfKey (nestedKind X.prog X.w) u) := by
      rw [← Array.getElem?_toList, he, List.getElem?_map, hu]; rfl
    refine next_key_item hit (rawO_at I.hok ha) hd hsz hen fun h' st' sb => ?_
    have I1 : Inv X pins σ H { s with heap := h', toks := s.toks } := I.turned (t' := s.toks) (fun b o hb e => (sb.2 b hb).trans e) f0 f1 f3 f4 f5
    obtain ⟨oo, e, c, d⟩ := id st'
    refine ⟨.ref u.2.1, rfl, go_of (s := { s with heap := h' }) e c d (by decide) ⟨.ref u.2.1, H, I1, rfl, ⟨rfl, u.2.1, ?_, rfl⟩, ⟨hin, st'⟩, fun b hb => (hf b hb).1⟩⟩
    rw [List.getElem?_map, hx, ← r2]; rfl
  done := by
    intro X hP hw hK hc i pins s σ H E I hf st hg
    subst hP hw hK
    obtain ⟨hin, ha⟩ := hg
    rw [List.length_map] at hin
    obtain ⟨f0, f1, f2, f3, f4, f5⟩ := hf it (by simp)
    obtain ⟨_, hit⟩ := st
    have hl := Paired.length hp
    have hsz : es.size = xs.length := by rw [← Array.length_toList, he, List.length_map, hl]
    exact next_key_end (I.ok.hd hc) hit (rawO_at I.hok ha) hd hsz hin fun h' eb => ⟨rfl, I.turned (t' := s.toks) (fun b o hb e => eb b o hb e) f0 f1 f3 f4 f5⟩
  self := fun A i s Q E st h => wpAny_pyIter_keyiter st.2 h
def iDctN (c : Cz) (te : TE) : TI := fun σ H R => te σ H fun v H1 => ∃ (a : Addr) (o : Obj) (xs : List (NestedKey × Addr × V)), v = .ref a ∧ H1 a = some (rawO a o) ∧ DN c a o xs ∧ R (ItN a o (xs.map (·.2.1))) H1
section
variable {X : Cx} {S : Sx}
theorem pi_dctN {tg e : Expr} {te : TE} (he : PE X e te) : PI X tg e (iDctN (cz X) te) := by
  refine ⟨fun pins s σ H R I h => ?_⟩
  refine thn (he.run pins s σ H _ I h) fun v s1 ⟨y, H1, I1, r1, a, o, xs, ex, ha, hn, q⟩ => ?_
  subst ex
  obtain rfl : v = Value.ref a := r1
  obtain ⟨es, ep, us, h1, h2, h3⟩ := hn.en
  have hl := Paired.length h2
  have hsz : es.size = xs.length := by rw [← Array.length_toList, h3, List.length_map, hl]
  refine iter_keys hn.sm (rawO_at I1.hok ha) hn.ed h1 ?_
  refine pi_one (tk := s1.toks) I1 _ (turn_ItN (mg := X.mg) h1 h2 h3) ⟨Nat.zero_le _, ?_⟩ q
  rw [← hsz]
  exact ⟨_, Heap.get?_push_size _ rfl, rfl, by simp [rawInt]⟩
theorem walk_ItN {a : Addr} {o : Obj} {ks : List Addr} : Walk (ItN a o ks) ks.length (fun H => H a = some (rawO a o)) (fun i H x H' => H' = H ∧ ∃ b, ks[i]? = some b ∧ x = .ref b) where
  goes := fun i H hi h => ⟨hi, h⟩
  stops := fun H h => ⟨Nat.le_refl _, h⟩
  yields := fun i H x H' hi h y => y
end
end Bv

namespace Bv
open PySem PySem.Spec L2 PyProof.Rows
def itemsD : D → Option (List D)
  | .dict ((.none, .int m) :: ds) => if m = 1 then some (ds.map (·.1)) else none
  | _ => none
theorem itemsD_N (ds : List (D × D)) : itemsD (.dict ((.none, .int 1) :: ds)) = some (ds.map (·.1)) := rfl
theorem RpN.key {c : Cz} {H : Hp} : ∀ {ds : List (D × D)} {xs : List (NestedKey × Addr × V)} {i : Nat} {b : Addr}, RpN c H xs ds → (xs.map (·.2.1))[i]? = some b → ∃ e, (ds.map (·.1))[i]? = some e ∧ Rp c H (.ref b) e
  | [], _, i, b, h, q => by cases h; cases q
  | (e, d) :: ds, _, i, b, h, q => by
    cases h with
    | cons h1 h2 h3 h4 =>
      cases i with
      | zero => cases q; exact ⟨e, rfl, h1⟩
      | succ i => exact RpN.key (i := i) h4 q
def sforD (M : List Nat) (b : D → Env' → Option Env') (f : Vw → Rv D) (g : Env' → Res) (ρ : Env') : Res := (f (vw M ρ)).st fun d => match itemsD d with
  | some xs => forL b g xs (frz M ρ)
  | none => .un
section
variable {X : Cx} {S : Sx}
/-- for target in a dict of nested tuples for keys -/
theorem ss_forD {tg iter : Expr} {body : List Stmt} {b : D → Env' → Option Env'} {f : Vw → Rv D} {g : Env' → Res} {pos : Pos} (M : List Nat) (ht : SemTg S tg b) (hi : SemE S iter f) (hb : SemSs S body g) (hdf : S.df = true := by rfl)
    (hs : ∀ env x, foldedSetIterable iter env x = pure x := by intro _ _; rfl) : SemS S (.For tg iter body [] pos) (sforD M b f g) := by
  obtain ⟨ti, pi, qi⟩ := hi.ex
  obtain ⟨tt, pt, qt⟩ := ht.ex
  obtain ⟨tb, pb, qb⟩ := hb.ex
  refine ⟨⟨tFor (iDctN S.c ti) tt tb, fun X hX => ?_, fun ρ F H0 Z σ H Dn ⟨o, k⟩ h => ?_⟩⟩
  · rw [← At.cz hX]
    exact ps_for (hX.pass hdf) hX.calm (pi_dctN (pi X hX)) (pt X hX) (pb X hX) (hs _)
  · unfold sforD at h
    refine qi (vw M ρ) σ H (hz Z ρ o M) _ k.hin k.view ?_
    cases ef : f (vw M ρ) with
    | un => rw [ef] at h; exact False.elim h
    | xc x => rw [ef] at h; exact fun cls dx H' e q => h cls dx σ H' (k.gr.trans e) (k.out e) (q.gr ((Gr.refl H').hid2 fun a z => .inl z))
    | ok d =>
      rw [ef] at h
      have h : PostS S F H0 Z Dn (match itemsD d with | some xs => forL b g xs (frz M ρ) | none => .un) := h
      intro v H' e r
      have k' := k.grow e
      have k3 := k'.freeze M
      have r : Rp S.c (hid H' (hz Z (frz M ρ) o [])) v d := by rw [hid_frz]; exact r
      have k1 : Ok S.c (hid H' (hz Z (frz M ρ) o [])) H0 Z (frz M ρ) σ H' := ⟨o, k3.keep (Gr.refl _)⟩
      have eF := k3.fr
      cases r with
      | @dctN a ob xs ds h1 h2 h3 =>
        rw [itemsD_N] at h
        obtain ⟨es, hes⟩ : ∃ es, es = ds.map (·.1) := ⟨_, rfl⟩
        have hk : ∀ {i : Nat} {b : Addr}, (xs.map (·.2.1))[i]? = some b → ∃ e, es[i]? = some e ∧ Rp S.c (hid H' (hz Z (frz M ρ) o [])) (.ref b) e := fun q => by rw [hes]; exact RpN.key h3 q
        have hlen : (xs.map (·.2.1)).length = es.length := by rw [hes, List.length_map, List.length_map, RpN.length h3]
        rw [← hes] at h
        have h : PostS S F H0 Z Dn (forL b g es (frz M ρ)) := h
        refine ⟨a, ob, xs, rfl, Gr.hid_le _ _ _ _ h1, h2, ?_⟩
        have := for_it (walk_ItN (a := a) (o := ob) (ks := xs.map (·.2.1))) (g := tt) (tb := tb) (D := Dn) (σ := σ) (H := H') (fun i σ' H2 => ∃ ρ', Ok S.c (hid H' (hz Z (frz M ρ) o [])) H0 Z ρ' σ' H2 ∧ PostS S F H0 Z Dn (forL b g (es.drop i) ρ')) ⟨_, k1, h⟩
          (fun i σ' H2 _ ⟨ρ', ⟨o', k2⟩, _⟩ => (k2.fr.trans (Gr.hid_le _ _)) _ _ h1) ?_ ?_
        · exact this
        · rintro i x σ' H2 H3 hlt ⟨ρ', k2, hp⟩ ⟨rfl, bb, hbb, rfl⟩
          obtain ⟨e', he', re⟩ := hk hbb
          rw [drop_cons he'] at hp
          exact turn_run qt qb eF k2 re hp fun ρ2 σ3 H3 k3 h3 => ⟨ρ2, k3, h3⟩
        · rintro σ' H2 ⟨ρ', k2, hp⟩
          rw [hlen, List.drop_length] at hp
          exact hp σ' H2 (k2.keep eF)
      | lst _ _ => exact False.elim h
      | tup _ _ => exact False.elim h
      | dctK _ _ => exact False.elim h
      | exc0 _ _ => exact False.elim h
      | exc1 _ _ _ _ => exact False.elim h
      | _ => exact False.elim h
def srcD (f : Vw → Rv D) (η : Vw) : Rv (List D) := (f η).bind fun d => match itemsD d with | some xs => .ok xs | none => .un
/-- [elt for tg in a dict if ..] -/
theorem sc_dict {n : Nat} {elt tg iter : Expr} {ifs : List Expr} {scope : Scope} {b : D → Vw → Option Vw} {ft : Vw → Rv Bool} {fe : Vw → Rv D} {f : Vw → Rv D} (own : List (Str × Nat)) (vs : List Nat) (hi : SemE S iter f) (hb : blkC S.N S.sc scope own = true) (hg : SemTv (S.blk scope) tg vs b)
    (ht : SemP (S.blk scope) ifs ft) (he : SemX (S.blk scope) n elt fe) (hv : own.map (·.2) = vs := by rfl) : SemC S n elt tg iter ifs scope (cmp vs b ft fe (srcD f)) := by
  obtain ⟨ti, pi, qi⟩ := hi.ex
  obtain ⟨g, pg, qg⟩ := hg.ex
  obtain ⟨tt, pt, qt⟩ := ht.ex
  obtain ⟨te, pe, qe⟩ := he.ex
  refine ⟨⟨iDctN S.c ti, g, tt, te, own, fun X hX => ?_, fun X hX => blkOk_by (by rw [hX.hN, hX.hsc]; exact hb), pg, pt, pe, hv.symm ▸ (fun η σ H Z Q z hη h => ?_)⟩⟩
  · rw [← At.cz hX]
    exact pi_dctN (pi X hX)
  · unfold cmp srcD at h
    refine qi η σ H Z _ z hη ?_
    cases ef : f η with
    | un => rw [ef] at h; exact False.elim h
    | xc x => rw [ef] at h; exact h
    | ok d =>
      rw [ef] at h
      intro v H' e r
      cases r with
      | @dctN a ob xs ds h1 h2 h3 =>
        simp only [Rv.bind_ok, itemsD_N] at h
        obtain ⟨es, hes⟩ : ∃ es, es = ds.map (·.1) := ⟨_, rfl⟩
        have hk : ∀ {i : Nat} {b : Addr}, (xs.map (·.2.1))[i]? = some b → ∃ e, es[i]? = some e ∧ Rp S.c (hid H' Z) (.ref b) e := fun q => by rw [hes]; exact RpN.key h3 q
        have hlen : (xs.map (·.2.1)).length = es.length := by rw [hes, List.length_map, List.length_map, RpN.length h3]
        rw [← hes] at h
        split at h
        · rename_i hl
          cases ec : compL b ft fe es (wipeV vs η) with
          | un => rw [ec] at h; exact False.elim h
          | xc x => exact absurd ec (compL_nox _ _ _)
          | ok fin =>
            rw [ec] at h
            have hf := Nat.le_trans (compL_len ec) hl
            have hp : PostFX S n σ Z H' Q (.ok fin) := h.gr e
            refine ⟨a, ob, xs, rfl, Gr.hid_le _ _ _ _ h1, h2, fun Dl hD => ?_⟩
            refine lc_it (walk_ItN (a := a) (o := ob) (ks := xs.map (·.2.1))) (fun i H2 => Fills S n H' Z Dl fin (compL b ft fe (es.drop i) (wipeV vs η)) H2) (fill_start hD ec) (fun i H2 _ w => (w.ex hD) _ _ (Gr.hid_le _ _ _ _ h1)) ?_ ?_
            · rintro i x H2 H3 hlt w ⟨rfl, bb, hbb, rfl⟩
              obtain ⟨e', he', re⟩ := hk hbb
              have w : Fills S n H' Z Dl fin (compL b ft fe (es.drop i) (wipeV vs η)) H3 := w
              rw [drop_cons he'] at w
              exact fill_turn (scope := scope) qg qt qe (z.gr e) (hη.gr (e.hid Z)) hD hf re (wipe_wipe σ _) w fun H3 w3 => w3
            · intro H2 w
              have w : Fills S n H' Z Dl fin (compL b ft fe (es.drop (xs.map (·.2.1)).length) (wipeV vs η)) H2 := w
              rw [hlen, List.drop_length] at w
              exact fill_end hD (z.gr e) hp w
        · exact False.elim h
      | _ => exact False.elim h
end
end Bv

namespace Bv
open PySem PySem.Spec L2 PyProof.Rows
theorem is_bool_gen {M : Model} {A : Around} {E : Value → Shared → Prop} {s : Shared} {Q : Value → Shared → Prop} {v : Value} {d : Bool} (hv : ∀ id, v ≠ .builtin id) (h : Q (.bool (v == .bool d)) s) : wpAny M A (compareOp .Is v (.bool d)) Q E s := by
  cases v <;> first
    | exact wpAny_pure h
    | exact absurd rfl (hv _)
theorem isnot_bool_gen {M : Model} {A : Around} {E : Value → Shared → Prop} {s : Shared} {Q : Value → Shared → Prop} {v : Value} {d : Bool} (hv : ∀ id, v ≠ .builtin id) (h : Q (.bool (!(v == .bool d))) s) : wpAny M A (compareOp .IsNot v (.bool d)) Q E s := by
  cases v <;> first
    | exact wpAny_pure h
    | exact absurd rfl (hv _)
section
variable {X : Cx} {S : Sx} {a b : Expr} {fa fb : Vw → Rv D} {pos : Pos}
theorem op_isB : OpR X (compareOp .Is) (fun x y H Q => ∃ k, y = .bl k ∧ Q (.bl (decide (x = .bl k))) H) := by
  intro pins s σ H x y v u Q I rx ry h
  obtain ⟨k, rfl, q⟩ := h
  cases ry
  refine is_bool_gen (fun id z => by subst z; cases x <;> first | (obtain ⟨t, zz⟩ := rx; cases zz; done) | (cases rx; done)) (fin_bl I q ?_)
  cases x <;> first
    | (cases rx; cases k <;> rfl)
    | (cases rx; rename_i b; cases b <;> cases k <;> rfl)
    | (obtain ⟨t, rfl⟩ := rx; cases k <;> rfl)
theorem op_notB : OpR X (compareOp .IsNot) (fun x y H Q => ∃ k, y = .bl k ∧ Q (.bl (!decide (x = .bl k))) H) := by
  intro pins s σ H x y v u Q I rx ry h
  obtain ⟨k, rfl, q⟩ := h
  cases ry
  refine isnot_bool_gen (fun id z => by subst z; cases x <;> first | (obtain ⟨t, zz⟩ := rx; cases zz; done) | (cases rx; done)) (fin_bl I q ?_)
  cases x <;> first
    | (cases rx; cases k <;> rfl)
    | (cases rx; rename_i b; cases b <;> cases k <;> rfl)
    | (obtain ⟨t, rfl⟩ := rx; cases k <;> rfl)
/-- is True, is False -/
def isB (k : Bool) : D → Bool
  | .bool j => decide (j = k)
  | _ => false
def dIsB : D → D → Rv D
  | a, .bool k => .ok (.bool (isB k a))
  | _, _ => .un
def dIsNotB : D → D → Rv D
  | a, .bool k => .ok (.bool !(isB k a))
  | _, _ => .un
@[simp] theorem dIsB_b (a : D) (k : Bool) : dIsB a (.bool k) = .ok (.bool (isB k a)) := by cases a <;> rfl
@[simp] theorem dIsNotB_b (a : D) (k : Bool) : dIsNotB a (.bool k) = .ok (.bool !(isB k a)) := by cases a <;> rfl
@[simp] theorem isB_b (k j : Bool) : isB k (.bool j) = decide (j = k) := rfl
@[simp] theorem isB_n (k : Bool) : isB k .none = false := rfl
theorem Rp.isB {c : Cz} {H : Hp} {v : V} {d : D} {k : Bool} (r : Rp c H v d) : Bv.isB k d = decide (v = .bl k) := by
  cases r with
  | bl b => cases b <;> cases k <;> rfl
  | _ => rfl
theorem o2_isB : Op2 S (fun x y H Q => ∃ k, y = .bl k ∧ Q (.bl (decide (x = .bl k))) H) dIsB := by
  intro x y a b H Z Q σ z ra rb h
  cases rb with
  | bl k =>
    rw [dIsB_b, ra.isB] at h
    exact ⟨k, rfl, Post.ok (R := RE S) h (.bl _)⟩
  | _ => cases a <;> exact False.elim h
theorem o2_isnotB : Op2 S (fun x y H Q => ∃ k, y = .bl k ∧ Q (.bl (!decide (x = .bl k))) H) dIsNotB := by
  intro x y a b H Z Q σ z ra rb h
  cases rb with
  | bl k =>
    rw [dIsNotB_b, ra.isB] at h
    exact ⟨k, rfl, Post.ok (R := RE S) h (.bl _)⟩
  | _ => cases a <;> exact False.elim h
theorem se_isB (ha : SemE S a fa) (hb : SemE S b fb) : SemE S (.Compare a [.Is] [b] pos) (bi2 dIsB fa fb) := se_cmp (fun _ _ => op_isB) o2_isB ha hb (nomark _)
theorem se_isnotB (ha : SemE S a fa) (hb : SemE S b fb) : SemE S (.Compare a [.IsNot] [b] pos) (bi2 dIsNotB fa fb) := se_cmp (fun _ _ => op_notB) o2_isnotB ha hb (nomark _)
theorem st_isB (ha : SemE S a fa) (hb : SemE S b fb) : SemT S (.Compare a [.Is] [b] pos) (asB (bi2 dIsB fa fb)) := st_cmp (fun _ _ => op_isB) o2_isB ha hb (nomark _)
theorem st_isnotB (ha : SemE S a fa) (hb : SemE S b fb) : SemT S (.Compare a [.IsNot] [b] pos) (asB (bi2 dIsNotB fa fb)) := st_cmp (fun _ _ => op_notB) o2_isnotB ha hb (nomark _)
end
end Bv

namespace Bv
open PySem PySem.Spec L2 PyProof.Rows

/-! ### texts -/
theorem line_of {n : Nat} (h : n ≤ 16000000) : n ≤ sizeLine := Nat.le_trans h (by decide)
def dAddS : D → D → Rv D
  | .str i, .str j => if i.length + j.length ≤ 16000000 then .ok (.str (i ++ j)) else .un
  | _, _ => .un
@[simp] theorem dAddS_s (i j : Str) : dAddS (.str i) (.str j) = if i.length + j.length ≤ 16000000 then .ok (.str (i ++ j)) else .un := rfl
def dStr : List D → Rv D
  | [.int i] => if i.natAbs.log2 < 1920 then .ok (.str (toString i)) else .un
  | [.str a] => .ok (.str a)
  | _ => .un
@[simp] theorem dStr_i (i : Int) : dStr [.int i] = if i.natAbs.log2 < 1920 then .ok (.str (toString i)) else .un := rfl
@[simp] theorem dStr_s (a : Str) : dStr [.str a] = .ok (.str a) := rfl
def dIntS : List D → Rv D
  | [.str a] => match PySem.intText? a with | some n => if a.length ≤ 640 then .ok (.int n) else .un | none => .un
  | [d] => dInt [d]
  | _ => .un
def dJoin (a : D) (b : D) : Rv D := match a, b with
  | .str x, .list ys => match strsOf ys with | some ks => if (ks.map (·.length)).sum + ks.length * x.length ≤ 16000000 then .ok (.str (Txt.join x ks)) else .un | none => .un
  | _, _ => .un
def dSplit (a b : D) : Rv (List D) := match a, b with
  | .str x, .str y => if (y.length == 0) = false ∧ x.length + 2 ≤ 16000000 then .ok ((Txt.split x y).map .str) else .un
  | _, _ => .un
def dIxS : D → D → Rv D
  | .str z, .int i => if 0 ≤ i ∧ i < z.length ∧ z.length ≤ 16000000 then match z.cps[i.toNat]? with | some c => .ok (.str ⟨#[c]⟩) | none => .un else .un
  | _, _ => .un
def dSlS : D → Option Int → Option Int → Rv D
  | .str z, lo, hi => if z.length ≤ 16000000 then .ok (.str (cutS z lo hi)) else .un
  | _, _, _ => .un
def isStr : D → Bool
  | .str _ => true
  | _ => false
def joinM (fa fb : Vw → Rv D) (η : Vw) : Rv D := (fa η).bind fun a => if isStr a = true then (fb η).bind fun b => dJoin a b else .un
def splitM (fa fb : Vw → Rv D) (η : Vw) : Rv (List D) := (fa η).bind fun a => if isStr a = true then (fb η).bind fun b => dSplit a b else .un
theorem isStr_eq {d : D} (h : isStr d = true) : ∃ x, d = .str x := by
  cases d <;> first | exact ⟨_, rfl⟩ | cases h
def slcS (f : Vw → Rv D) (l u : Vw → Rv (Option Int)) (η : Vw) : Rv D := (f η).bind fun d => (l η).bind fun lo => (u η).bind fun hi => dSlS d lo hi
section
variable {X : Cx} {S : Sx} {a b : Expr} {fa fb : Vw → Rv D} {pos : Pos}
theorem o2_addS : Op2 S (fun x y H Q => ∃ i j, x = .str i ∧ y = .str j ∧ i.length + j.length ≤ sizeLine ∧ Q (.str (i ++ j)) H) dAddS := by
  intro x y a b H Z Q σ z ra rb h
  cases ra with
  | str i =>
    cases rb with
    | str j =>
      rw [dAddS_s] at h
      split at h
      · rename_i hl
        exact ⟨i, j, rfl, rfl, line_of hl, Post.ok (R := RE S) h (.str _)⟩
      · exact False.elim h
    | _ => exact False.elim h
  | _ => exact False.elim h
theorem se_addS (ha : SemE S a fa) (hb : SemE S b fb) : SemE S (.BinOp a .Add b pos) (bi2 dAddS fa fb) := se_op (fun _ _ => op_add_str) o2_addS ha hb
theorem on_str : OpN S (fun xs H Q => (∃ i, xs = [.int i] ∧ i.natAbs.log2 < 1920 ∧ Q (.str (toString i)) H) ∨ ∃ a, xs = [.str a] ∧ Q (.str a) H) dStr := by
  intro xs ds H Z Q σ z r h
  cases r with
  | nil => exact False.elim h
  | cons r1 r2 =>
    cases r2 with
    | cons _ _ => cases r1 <;> exact False.elim h
    | nil =>
      cases r1 with
      | int i =>
        rw [dStr_i] at h
        split at h
        · rename_i hl
          exact .inl ⟨i, rfl, hl, Post.ok (R := RE S) h (.str _)⟩
        · exact False.elim h
      | str x => exact .inr ⟨x, rfl, Post.ok (R := RE S) h (.str _)⟩
      | _ => exact False.elim h
theorem call_strA : CallR X (.type "str") (fun xs H Q => (∃ i, xs = [.int i] ∧ i.natAbs.log2 < 1920 ∧ Q (.str (toString i)) H) ∨ ∃ a, xs = [.str a] ∧ Q (.str a) H) := call_str_int.or SkE.call_str_str
theorem on_intS : OpN S (fun xs H Q => (∃ a n, xs = [.str a] ∧ PySem.intText? a = some n ∧ a.length ≤ 640 ∧ Q (.int n) H) ∨ (∃ i, xs = [.int i] ∧ Q (.int i) H) ∨ ∃ k, xs = [.bl k] ∧ Q (.int (if k then 1 else 0)) H) dIntS := by
  intro xs ds H Z Q σ z r h
  cases r with
  | nil => exact False.elim h
  | cons r1 r2 =>
    cases r2 with
    | cons _ _ => cases r1 <;> exact False.elim h
    | nil =>
      cases r1 with
      | int i => exact .inr (.inl ⟨i, rfl, Post.ok (R := RE S) h (.int _)⟩)
      | bl k => exact .inr (.inr ⟨k, rfl, Post.ok (R := RE S) h (.int _)⟩)
      | str x =>
        have h : Post S (RE S) σ Z H Q (match PySem.intText? x with | some n => if x.length ≤ 640 then .ok (.int n) else .un | none => .un) := h
        cases e : PySem.intText? x with
        | none => rw [e] at h; exact False.elim h
        | some n =>
          rw [e] at h
          dsimp only at h
          split at h
          · rename_i hl
            exact .inl ⟨x, n, rfl, e, hl, Post.ok (R := RE S) h (.int _)⟩
          · exact False.elim h
      | _ => exact False.elim h
theorem call_intA : CallR X (.type "int") (fun xs H Q => (∃ a n, xs = [.str a] ∧ PySem.intText? a = some n ∧ a.length ≤ 640 ∧ Q (.int n) H) ∨ (∃ i, xs = [.int i] ∧ Q (.int i) H) ∨ ∃ k, xs = [.bl k] ∧ Q (.int (if k then 1 else 0)) H) := call_int_str.or call_int1
/-- sep.join(a list of texts) -/
theorem se_join {p1 p2 : Pos} (ha : SemE S a fa) (hb : SemE S b fb) (hs : ∀ env, starEach [b] env = [(false, eval b env)] := by intro _; rfl) (hbase : ∀ env, attributeBase a "join" env (eval a env) = eval a env := by intro _; rfl) (hline : (p1.endLine == p2.line) = true := by rfl) :
    SemE S (.Call (.Attribute a "join" p1) [b] [] p2) (joinM fa fb) := by
  obtain ⟨ta, pa, qa⟩ := ha.ex
  obtain ⟨tb, pb, qb⟩ := hb.ex
  refine ⟨⟨tM1 (fun x xs H Q => ∃ a p, ∃ ys : List Str, x = .str a ∧ xs = [.ref p] ∧ (SqL S.K H p (ys.map V.str) ∨ SqT S.K H p (ys.map V.str)) ∧ (ys.map (·.length)).sum + ys.length * a.length ≤ 16777216 ∧ Q (.str (Txt.join a ys)) H) ta tb, fun X hX => ?_, fun η σ H Z Q z hη h => ?_⟩⟩
  · rw [← hX.hK]
    exact pe_join (pa X hX) (pb X hX) (hs _) (hbase _) hline
  · refine qa η σ H Z _ z hη (Post.bind h fun d x H1 _ e1 r1 h1 => ?_)
    by_cases hd : isStr d = true
    · rw [if_pos hd] at h1
      obtain ⟨sp, rfl⟩ := isStr_eq hd
      cases r1
      refine ⟨⟨sp, rfl⟩, ?_⟩
      refine qb η σ H1 Z _ (z.gr e1) (hη.gr (e1.hid Z)) (Post.bind h1 fun e y H2 _ e2 r2 h2 => ?_)
      cases r2 with
      | @lst p vs ds g1 g2 =>
        have h2 : Post S (RE S) σ Z H2 Q (match strsOf ds with | some ks => if (ks.map (·.length)).sum + ks.length * sp.length ≤ 16000000 then .ok (.str (Txt.join sp ks)) else .un | none => .un) := h2
        cases eq : strsOf ds with
        | none => rw [eq] at h2; exact False.elim h2
        | some ks =>
          rw [eq] at h2
          obtain rfl := strsOf_eq eq
          obtain rfl := RpA.isStrs g2
          have q0 : dJoin (.str sp) (.list (ks.map .str)) = if (ks.map (·.length)).sum + ks.length * sp.length ≤ 16000000 then .ok (.str (Txt.join sp ks)) else .un := by unfold dJoin; simp only [strsOf_map]
          have h2 : Post S (RE S) σ Z H2 Q (dJoin (.str sp) (.list (ks.map .str))) := h2
          rw [q0] at h2
          split at h2
          · rename_i hl
            exact ⟨sp, p, ks, rfl, rfl, .inl ((Gr.hid_le H2 Z).rdl g1).sq, Nat.le_trans hl (by decide), Post.ok (R := RE S) h2 (.str _)⟩
          · exact False.elim h2
      | _ => exact False.elim h2
    · rw [if_neg hd] at h1
      exact False.elim h1
/-- x.split(sep): a new list -/
theorem sf_split {p1 p2 : Pos} (ha : SemE S a fa) (hb : SemE S b fb) (hs : ∀ env, starEach [b] env = [(false, eval b env)] := by intro _; rfl) (hbase : ∀ env, attributeBase a "split" env (eval a env) = eval a env := by intro _; rfl) (hline : (p1.endLine == p2.line) = true := by rfl) :
    SemF S (.Call (.Attribute a "split" p1) [b] [] p2) (splitM fa fb) := by
  obtain ⟨ta, pa, qa⟩ := ha.ex
  obtain ⟨tb, pb, qb⟩ := hb.ex
  refine ⟨⟨tM1 (fun x xs H Q => ∃ a b, x = .str a ∧ xs = [.str b] ∧ (b.length == 0) = false ∧ a.length + 2 ≤ sizeLine ∧ rNewStrs (Txt.split a b) H Q) ta tb, fun X hX => ?_, fun η σ H Z Q z hη h => ?_⟩⟩
  · exact pe_split (pa X hX) (pb X hX) (hs _) (hbase _) hline
  · refine qa η σ H Z _ z hη (Post.bind h fun d x H1 _ e1 r1 h1 => ?_)
    by_cases hd : isStr d = true
    · rw [if_pos hd] at h1
      obtain ⟨sp, rfl⟩ := isStr_eq hd
      cases r1
      refine ⟨⟨sp, rfl⟩, ?_⟩
      refine qb η σ H1 Z _ (z.gr e1) (hη.gr (e1.hid Z)) (Post.bind h1 fun e y H2 _ e2 r2 h2 => ?_)
      cases r2 with
      | str y =>
        have h2 : Post S (fun H' (p : Addr × List V) ds => RpA S.c H' p.2 ds) σ Z H2 (fun p H' => H' p.1 = none → Q (.ref p.1) (upd H' p.1 (.lst p.2))) (if (y.length == 0) = false ∧ sp.length + 2 ≤ 16000000 then .ok ((Txt.split sp y).map .str) else .un) := h2
        split at h2
        · rename_i hc
          exact ⟨sp, y, rfl, rfl, hc.1, line_of hc.2, fun p hp => h2 (p, (Txt.split sp y).map V.str) H2 (Gr.refl H2) (RpA.ofStrs _) hp⟩
        · exact False.elim h2
      | _ => exact False.elim h2
    · rw [if_neg hd] at h1
      exact False.elim h1
/-- one sign of a text -/
theorem o2_ixS : Op2 S (fun x y H Q => ∃ z i c, x = .str z ∧ y = .int i ∧ 0 ≤ i ∧ i < 2 ^ 63 ∧ i < z.length ∧ z.cps[i.toNat]? = some c ∧ Q (.str ⟨#[c]⟩) H) dIxS := by
  intro x y a b H Z Q σ z ra rb h
  cases ra with
  | str t =>
    cases rb with
    | int i =>
      have h : Post S (RE S) σ Z H Q (if 0 ≤ i ∧ i < t.length ∧ t.length ≤ 16000000 then match t.cps[i.toNat]? with | some c => .ok (.str ⟨#[c]⟩) | none => .un else .un) := h
      split at h
      · rename_i hc
        cases e : t.cps[i.toNat]? with
        | none => rw [e] at h; exact False.elim h
        | some c =>
          rw [e] at h
          exact ⟨t, i, c, rfl, rfl, hc.1, by omega, hc.2.1, e, Post.ok (R := RE S) h (.str _)⟩
      · exact False.elim h
    | _ => exact False.elim h
  | _ => exact False.elim h
theorem se_ixS (ha : SemE S a fa) (hb : SemE S b fb) (hs : PlainIxT b := by intro _ _; rfl) : SemE S (.Subscript a b pos) (bi2 dIxS fa fb) := by
  obtain ⟨ta, pa, qa⟩ := ha.ex
  obtain ⟨tb, pb, qb⟩ := hb.ex
  exact ⟨⟨_, fun X hX => pe_item_str (pa X hX) (pb X hX) hs, bin_run o2_ixS qa qb⟩⟩
/-- a part of a text -/
theorem se_sliceS {lo hi : Option Expr} {fl fh : Vw → Rv (Option Int)} {p2 : Pos} (ha : SemE S a fa) (hl : SemO S lo fl) (hh : SemO S hi fh) : SemE S (.Subscript a (.Slice lo hi none p2) pos) (slcS fa fl fh) := by
  obtain ⟨ta, pa, qa⟩ := ha.ex
  obtain ⟨tl, pl, ql⟩ := hl.ex
  obtain ⟨th, ph, qh⟩ := hh.ex
  refine ⟨⟨_, fun X hX => pe_slice (r := rSlS) sl_str (pa X hX) (pl X hX) (ph X hX), fun η σ H Z Q z hη h => ?_⟩⟩
  refine qa η σ H Z _ z hη (Post.bind h fun d x H1 _ e1 r1 h1 => ?_)
  refine ql η σ H1 Z _ (z.gr e1) (hη.gr (e1.hid Z)) (Post.bind h1 fun l y H2 _ e2 r2 h2 => ?_)
  refine qh η σ H2 Z _ ((z.gr e1).gr e2) (hη.gr ((e1.trans e2).hid Z)) (Post.bind h2 fun u w H3 _ e3 r3 h3 => ?_)
  cases (show y = l from r2)
  cases (show w = u from r3)
  cases r1 with
  | str t =>
    have h3 : Post S (RE S) σ Z H3 Q (if t.length ≤ 16000000 then .ok (.str (cutS t l u)) else .un) := h3
    split at h3
    · rename_i hc
      exact ⟨t, rfl, line_of hc, Post.ok (R := RE S) h3 (.str _)⟩
    · exact False.elim h3
  | _ => exact False.elim h3
end
end Bv

namespace Bv
open PySem PySem.Spec L2 PyProof.Rows

/-! ### in, of lists, tuples, texts -/
def flatD : D → Bool
  | .none => true
  | .bool _ => true
  | .int _ => true
  | .str _ => true
  | _ => false
/-- == of flat data -/
def eqF : D → D → Bool
  | .none, .none => true
  | .bool a, .bool b => a == b
  | .bool a, .int b => (if a then 1 else 0) == b
  | .int a, .bool b => a == (if b then 1 else 0)
  | .int a, .int b => a == b
  | .str a, .str b => a == b
  | _, _ => false
def dInQ : D → D → Rv D
  | .str x, .str y => .ok (.bool (!(Builtin.Str.occurrences y x 0 y.length 1).isEmpty))
  | a, .list ds => if shp a = true ∧ shp (.list ds) = true then .ok (.bool (ds.any fun z => PyData.eqv z a)) else .un
  | a, .tuple ds => if flatD a = true ∧ ds.all flatD = true then .ok (.bool (ds.any fun z => eqF z a)) else .un
  | _, _ => .un
def dNotInQ (a b : D) : Rv D := (dInQ a b).bind fun d => match d with | .bool k => .ok (.bool !k) | _ => .un
theorem Rp.flat {c : Cz} {H : Hp} {v : V} {d : D} (r : Rp c H v d) (h : flatD d = true) : flatV v = true := by
  cases d <;> first | (exact absurd (show false = true from h) Bool.false_ne_true) | (cases r; rfl)
theorem RpA.flat {c : Cz} {H : Hp} : ∀ {ds : List D} {vs : List V}, RpA c H vs ds → ds.all flatD = true → vs.all flatV = true
  | [], _, h, _ => by cases h; rfl
  | d :: ds, _, h, f => by
    cases h with
    | cons h1 h2 =>
      rw [List.all_cons, Bool.and_eq_true] at f
      rw [List.all_cons, h1.flat f.1, RpA.flat h2 f.2]; rfl
theorem Rp.eqF {c : Cz} {H : Hp} {v w : V} {d e : D} (r : Rp c H v d) (s : Rp c H w e) (h : flatD d = true) (g : flatD e = true) : eqV v w = Bv.eqF d e := by
  cases d <;> first | (exact absurd (show false = true from h) Bool.false_ne_true) | (cases e <;> first | (exact absurd (show false = true from g) Bool.false_ne_true) | (cases r; cases s; rfl))
theorem RpA.isIn {c : Cz} {H : Hp} {w : V} {e : D} (s : Rp c H w e) (g : flatD e = true) : ∀ {ds : List D} {vs : List V}, RpA c H vs ds → ds.all flatD = true → inV w vs = ds.any fun z => Bv.eqF z e
  | [], _, h, _ => by cases h; rfl
  | d :: ds, _, h, f => by
    cases h with
    | cons h1 h2 =>
      rw [List.all_cons, Bool.and_eq_true] at f
      have := RpA.isIn s g h2 f.2
      unfold inV at *
      rw [List.any_cons, List.any_cons, this, h1.eqF s f.1 g]
/-- a text by its global name -/
def GStr (T : Wd) (x : Str) (i : Str) : Prop := ∃ t, T.mg x = some (.str i t)
def boolsOf : List D → Option (List Bool)
  | [] => some []
  | .bool x :: r => (boolsOf r).map (x :: ·)
  | _ => none
theorem boolsOf_map : ∀ (ns : List Bool), boolsOf (ns.map .bool) = some ns
  | [] => rfl
  | n :: ns => by rw [List.map_cons, boolsOf, boolsOf_map ns]; rfl
theorem boolsOf_eq : ∀ {xs : List D} {ns : List Bool}, boolsOf xs = some ns → xs = ns.map .bool
  | [], ns, h => by cases h; rfl
  | d :: ds, ns, h => by
    cases d with
    | bool x =>
      have h : (boolsOf ds).map (x :: ·) = some ns := h
      cases e : boolsOf ds with
      | none => rw [e] at h; cases h
      | some m => rw [e] at h; cases h; rw [boolsOf_eq e]; rfl
    | _ => cases h
theorem RpA.isBls {c : Cz} {H : Hp} : ∀ {ns : List Bool} {vs : List V}, RpA c H vs (ns.map .bool) → vs = ns.map .bl
  | [], _, h => by cases h; rfl
  | n :: ns, _, h => by
    cases h with
    | cons h1 h2 => cases h1; rw [RpA.isBls h2]; rfl
def dAll : List D → Rv D
  | [.list xs] => match boolsOf xs with | some ns => .ok (.bool (ns.all id)) | none => .un
  | _ => .un
theorem dAll_b (ns : List Bool) : dAll [.list (ns.map .bool)] = .ok (.bool (ns.all id)) := by
  show (match boolsOf (ns.map .bool) with | some ns => Rv.ok (PyData.bool (ns.all id)) | none => .un) = _
  rw [boolsOf_map]
section
variable {X : Cx} {S : Sx} {a b : Expr} {fa fb : Vw → Rv D} {pos : Pos}
def rInQ (K : PySem.W.Frag) : R2 := fun x y H Q => (∃ i j, x = .str i ∧ y = .str j ∧ Q (.bl (!(Builtin.Str.occurrences j i 0 j.length 1).isEmpty)) H) ∨ rInD K x y H Q ∨ rIn K false x y H Q
def rNotInQ (K : PySem.W.Frag) : R2 := fun x y H Q => (∃ i j, x = .str i ∧ y = .str j ∧ Q (.bl (!(!(Builtin.Str.occurrences j i 0 j.length 1).isEmpty))) H) ∨ rNotInD K x y H Q ∨ rIn K true x y H Q
theorem op_inQ (hu : X.A.units + 65 < cLine) : OpR X (compareOp .In) (rInQ X.K) := op_in_str.or ((op_inD hu).or op_in_seq)
theorem op_notInQ (hu : X.A.units + 65 < cLine) : OpR X (compareOp .NotIn) (rNotInQ X.K) := op_notIn_str.or ((op_notInD hu).or op_notIn_seq)
theorem dInQ_at (a b : D) : (∃ x y, a = .str x ∧ b = .str y ∧ dInQ a b = .ok (.bool (!(Builtin.Str.occurrences y x 0 y.length 1).isEmpty))) ∨ (∃ ds, b = .list ds ∧ shp a = true ∧ shp (.list ds) = true ∧ dInQ a b = .ok (.bool (ds.any fun z => PyData.eqv z a))) ∨ (∃ ds, b = .tuple ds ∧ flatD a = true ∧ ds.all flatD = true ∧ dInQ a b = .ok (.bool (ds.any fun z => Bv.eqF z a))) ∨ dInQ a b = .un := by
  unfold dInQ
  split
  · exact .inl ⟨_, _, rfl, rfl, rfl⟩
  · split
    · rename_i h; exact .inr (.inl ⟨_, rfl, h.1, h.2, rfl⟩)
    · exact .inr (.inr (.inr rfl))
  · split
    · rename_i h; exact .inr (.inr (.inl ⟨_, rfl, h.1, h.2, rfl⟩))
    · exact .inr (.inr (.inr rfl))
  · exact .inr (.inr (.inr rfl))
theorem o2_inQ : Op2 S (rInQ S.K) dInQ := by
  intro x y a b H Z Q σ z ra rb h
  rcases dInQ_at a b with ⟨i, j, rfl, rfl, e⟩ | ⟨ds, rfl, sa, sb, e⟩ | ⟨ds, rfl, fa, fs, e⟩ | e
  · cases ra; cases rb
    rw [e] at h
    exact .inl ⟨i, j, rfl, rfl, Post.ok (R := RE S) h (.bl _)⟩
  · rw [e] at h
    rw [shp, Bool.and_eq_true] at sa sb
    exact .inr (.inl ⟨a, ds, Rp.dp sa.1 (ra.gr (Gr.hid_le H Z)), Rp.dp sb.1 (rb.gr (Gr.hid_le H Z)), sa.2, sb.2, Post.ok (R := RE S) h (.bl _)⟩)
  · rw [e] at h
    cases rb with
    | @tup p vs _ h1 h2 =>
      refine .inr (.inr ⟨p, vs, rfl, .inr ((Gr.hid_le H Z).sqT h1), ra.flat fa, h2.flat fs, ?_⟩)
      rw [if_neg (by decide), h2.isIn ra fa fs]
      exact Post.ok (R := RE S) h (.bl _)
  · rw [e] at h; exact False.elim h
theorem o2_notInQ : Op2 S (rNotInQ S.K) dNotInQ := by
  intro x y a b H Z Q σ z ra rb h
  unfold dNotInQ at h
  rcases dInQ_at a b with ⟨i, j, rfl, rfl, e⟩ | ⟨ds, rfl, sa, sb, e⟩ | ⟨ds, rfl, fa, fs, e⟩ | e
  · cases ra; cases rb
    rw [e] at h
    exact .inl ⟨i, j, rfl, rfl, Post.ok (R := RE S) h (.bl _)⟩
  · rw [e] at h
    rw [shp, Bool.and_eq_true] at sa sb
    exact .inr (.inl ⟨a, ds, Rp.dp sa.1 (ra.gr (Gr.hid_le H Z)), Rp.dp sb.1 (rb.gr (Gr.hid_le H Z)), sa.2, sb.2, Post.ok (R := RE S) h (.bl _)⟩)
  · rw [e] at h
    cases rb with
    | @tup p vs _ h1 h2 =>
      refine .inr (.inr ⟨p, vs, rfl, .inr ((Gr.hid_le H Z).sqT h1), ra.flat fa, h2.flat fs, ?_⟩)
      rw [if_pos rfl, h2.isIn ra fa fs]
      exact Post.ok (R := RE S) h (.bl _)
  · rw [e] at h; exact False.elim h
theorem se_inQ (ha : SemE S a fa) (hb : SemE S b fb) (hm : behindInMarks .In b = false := by rfl) : SemE S (.Compare a [.In] [b] pos) (bi2 dInQ fa fb) := se_cmp (fun X hX => hX.hK ▸ op_inQ (by have := hX.units; omega)) o2_inQ ha hb hm
theorem st_inQ (ha : SemE S a fa) (hb : SemE S b fb) (hm : behindInMarks .In b = false := by rfl) : SemT S (.Compare a [.In] [b] pos) (asB (bi2 dInQ fa fb)) := st_cmp (fun X hX => hX.hK ▸ op_inQ (by have := hX.units; omega)) o2_inQ ha hb hm
theorem se_notinQ (ha : SemE S a fa) (hb : SemE S b fb) (hm : behindInMarks .NotIn b = false := by rfl) : SemE S (.Compare a [.NotIn] [b] pos) (bi2 dNotInQ fa fb) := se_cmp (fun X hX => hX.hK ▸ op_notInQ (by have := hX.units; omega)) o2_notInQ ha hb hm
theorem st_notinQ (ha : SemE S a fa) (hb : SemE S b fb) (hm : behindInMarks .NotIn b = false := by rfl) : SemT S (.Compare a [.NotIn] [b] pos) (asB (bi2 dNotInQ fa fb)) := st_cmp (fun X hX => hX.hK ▸ op_notInQ (by have := hX.units; omega)) o2_notInQ ha hb hm
theorem se_gstr {x : Str} {i : Str} {pos : Pos} (hm : GStr S.toWd x i) (hg : S.sc.names.lookup x = some .globalImplicit := by rfl) (hd : (x == ("__debug__" : Str)) = false := by decide) : SemE S (.Name x pos) (cst (.str i)) := by
  refine ⟨⟨tC (.str i), fun X hX => ?_, fun η σ H Z Q z hη h => ?_⟩⟩
  · obtain ⟨t, ht⟩ := hm
    exact pe_glob (by show X.env.scope.names.lookup x = _; rw [hX.hsc]; exact hg) (by rw [hX.hmg]; exact ht) ⟨_, rfl⟩ hd
  · exact Post.ok (R := RE S) h (.str i)
theorem on_all : OpN S (rAll S.K) dAll := by
  intro xs ds H Z Q σ z r h
  cases r with
  | nil => exact False.elim h
  | cons r1 r2 =>
    cases r2 with
    | cons _ _ => cases r1 <;> exact False.elim h
    | nil =>
      cases r1 with
      | @lst a vs ds h1 h2 =>
        have hh : Post S (RE S) σ Z H Q (match boolsOf ds with | some ns => .ok (.bool (ns.all id)) | none => .un) := h
        cases e : boolsOf ds with
        | none => rw [e] at hh; exact False.elim hh
        | some ns =>
          rw [e] at hh
          obtain rfl := boolsOf_eq e
          obtain rfl := RpA.isBls h2
          exact ⟨a, ns, rfl, ((Gr.hid_le H Z).rdl h1).sq, Post.ok (R := RE S) hh (.bl _)⟩
      | _ => exact False.elim h
end
end Bv

namespace Bv
open PySem PySem.Spec L2 PyProof.Rows
theorem TreeA.extI {c : Cz} {Hv H : Hp} {n : Nat} : ∀ {es : List D} {zs : List V} {xs : List V} {ds : List D} {U : List Addr}, RpA c Hv zs es → immA es = true → TreeA c Hv H n xs ds U → TreeA c Hv H n (xs ++ zs) (ds ++ es) U
  | [], _, xs, ds, U, r, _, t => by cases r; simpa using t
  | e :: es, _, xs, ds, U, r, i, t => by
    cases r with
    | @cons z zs _ _ r1 r2 =>
      have i : imm e = true ∧ immA es = true := by simpa [immA] using i
      have := TreeA.extI r2 i.2 (TreeA.snoc (.leaf i.1 r1) t)
      simpa using this
section
variable {S : Sx}
/-! ### x.extend(f(..)) -/
def ext (j : Nat) (M : List Nat) (f : Vw → Rv D) (ρ : Env') : Res := match ρ[j]? with
  | some (.ow (n + 1) (.list xs)) => (f (vw M ρ)).st fun d => match d with
    | .list es => if xs.length + es.length < 16000000 ∧ immA es = true then .nx (ρ.set j (.ow (n + 1) (.list (xs ++ es)))) else .un
    | _ => .un
  | _ => .un
theorem ss_ext {j : Nat} {x : Str} {e : Expr} {f : Vw → Rv D} {p1 p2 p3 p4 : Pos} (M : List Nat) (he : SemX S 1 e f) (hN : S.N[j]? = some x := by rfl) (hv : Vis S.sc x := by first | exact Or.inl rfl | exact Or.inr (Or.inl rfl) | exact Or.inr (Or.inr rfl)) (hd : (x == ("__debug__" : Str)) = false := by decide)
    (hcd : (x == ("__classdict__" : Str)) = false := by decide) (hbase : ∀ env, attributeBase (.Name x p1) "extend" env (eval (.Name x p1) env) = eval (.Name x p1) env := by intro _; rfl)
    (hfew : ∀ env, ((backTo p3 (starEach [e] env)).all (fun x => !x.1) && (backToKw p3 (keywordEach [] env)).all (fun x => x.1.isSome)
      && decide (([e] : List Expr).length + ([] : List Keyword).length + (if ([] : List Keyword).isEmpty then 0 else 1) < 30)) = true := by intro _; rfl)
    (hline : (p2.endLine == p3.line) = true := by rfl) (hs : ∀ env, starEach [e] env = (false, eval e env) :: starEach [] env := by intro _; rfl) (hplain : ∀ env, (backTo p3 (starEach [] env)).any (·.1) = false := by intro _; rfl)
    (hsw : ∀ env, swapsWith (.Call (.Attribute (.Name x p1) "extend" p2) [e] [] p3) none p4.line env = pure false := by intro _; rfl) : SemS S (.Expr (.Call (.Attribute (.Name x p1) "extend" p2) [e] [] p3) p4) (ext j M f) := by
  obtain ⟨t, p, q⟩ := he.ex
  refine ⟨⟨tDrop (tBM S.K "list" rExtend (tVar j) (tCons t tNil)), fun X hX => ?_, fun ρ F H0 Z σ H Dn ⟨o, k⟩ h => ?_⟩⟩
  · rw [← hX.hK]
    exact ps_expr (pe_bm PySem.F.plainAttrs_list PySem.F.slot_list_extend PySem.F.type_list_extend mt_extend (pe_var (by rw [hX.hN]; exact hN) (by rw [hX.hsc]; exact hv) hd hcd) (pa_cons (p X hX) pa_nil (hs _)) (hbase _) (hfew _) hline (hs _) (hplain _)) (hsw _)
  unfold ext at h
  split at h
  · rename_i n xs hj
    obtain ⟨⟨v0, s1, tr⟩, s2⟩ := k.ow j _ _ hj
    obtain ⟨a, vs, W, rfl, hU, s4, s5, s6⟩ := tr.isL
    refine ⟨_, s1, .inl ⟨rfl, vs, .inl (.inl s4)⟩, ?_⟩
    refine q (vw M ρ) σ H (hz Z ρ o M) _ k.hin k.view (run_x k h fun d v H' Uv _ g hUv tv h' => ?_)
    have k' := k.grow g
    obtain ⟨⟨v0', s1', tr'⟩, s2'⟩ := k'.ow j _ _ hj
    rw [s1] at s1'
    cases s1'
    obtain ⟨a', vs', W', ea, hU', w4, w5, w6⟩ := tr'.isL
    cases ea
    have hl := TreeA.length w5
    split at h'
    · rename_i es hes
      split at h'
      · rename_i hlt
        obtain ⟨b, zs, Wb, rfl, rfl, b4, b5, b6⟩ := tv.isL
        have hlz := TreeA.length b5
        have rz : RpA S.c (hid H' (hz Z ρ o M)) zs es := TreeA.rp ((Gr.refl H').hid2 fun a h => .inl h) (fun a ha => hid_no fun y => k.hin a y (hUv a (List.mem_cons_of_mem _ ha))) b5
        refine ⟨a, b, vs', zs, rfl, rfl, w4, b4, line_of (by omega), ?_⟩
        have hne : ∀ b, b ∉ o j → upd H' a (.lst (vs' ++ zs)) b = H' b := fun b hb => upd_ne fun z => hb (by rw [hU', z]; exact List.mem_cons_self)
        have hW : ∀ b ∈ W', upd H' a (.lst (vs' ++ zs)) b = H' b := fun b hb => upd_ne fun z => w6 (z ▸ hb)
        refine h' _ _ ⟨o, k'.change hj s1 hne fun Hv e => ?_⟩
        rw [hU']
        exact .lst upd_same (TreeA.extI (RpA.gr e (k'.immA hlt.2 rz)) hlt.2 (TreeA.gr e hW w5)) w6
      · exact False.elim h'
    · exact False.elim h'
  · exact False.elim h
/-! ### list(range(a, b)) -/
def rgF (fa fb : Vw → Rv D) (η : Vw) : Rv (List D) := (fa η).bind fun a => (fb η).bind fun b => match a, b with
  | .int i, .int j => if rngOk i = true ∧ rngOk j = true ∧ (j - i).toNat ≤ 16000000 then .ok (rangeD i j) else .un
  | _, _ => .un
theorem RpA.rg {c : Cz} {H : Hp} (i j : Int) : RpA c H (rgV i j) (rangeD i j) := by
  unfold rgV rangeD
  generalize List.range (j - i).toNat = l
  induction l with
  | nil => exact .nil
  | cons x l ih => exact .cons (.int _) ih
theorem sf_listRg {a b : Expr} {fa fb : Vw → Rv D} {p p2 pos pos2 : Pos} (hm : S.mg "list" = none) (hm2 : S.mg "range" = none) (ha : SemE S a fa) (hb : SemE S b fb) (hg : S.sc.names.lookup ("list" : Str) = some .globalImplicit := by rfl) (hg2 : S.sc.names.lookup ("range" : Str) = some .globalImplicit := by rfl)
    (hs : ∀ env, starEach [a, b] env = (false, eval a env) :: starEach [b] env := by intro _; rfl) (hsb : ∀ env, starEach [b] env = (false, eval b env) :: starEach [] env := by intro _; rfl) (hp : ∀ env, (backTo pos2 (starEach [b] env)).any (·.1) = false := by intro _; rfl)
    (hs2 : ∀ env, starEach [.Call (.Name "range" p2) [a, b] [] pos2] env = (false, eval (.Call (.Name "range" p2) [a, b] [] pos2) env) :: starEach [] env := by intro _; rfl) :
    SemF S (.Call (.Name "list" p) [.Call (.Name "range" p2) [a, b] [] pos2] [] pos) (rgF fa fb) := by
  obtain ⟨ta, pa, qa⟩ := ha.ex
  obtain ⟨tb, pb, qb⟩ := hb.ex
  refine ⟨⟨tLstRg (tRg2 ta tb), fun X hX => ?_, fun η σ H Z Q z hη h => ?_⟩⟩
  · have g1 : Gl X "list" := by show X.env.scope.names.lookup _ = _; rw [hX.hsc]; exact hg
    have g2 : Gl X "range" := by show X.env.scope.names.lookup _ = _; rw [hX.hsc]; exact hg2
    exact pe_listRg hX.calm g1 (by rw [hX.hmg]; exact hm) (prg_2 g2 (by rw [hX.hmg]; exact hm2) (pa X hX) (pb X hX) (hs _) (hsb _) (hp _)) (hs2 _)
  · refine qa η σ H Z _ z hη (Post.bind h fun d x H1 _ e1 r1 h1 => ?_)
    refine qb η σ H1 Z _ (z.gr e1) (hη.gr (e1.hid Z)) (Post.bind h1 fun e y H2 _ e2 r2 h2 => ?_)
    cases r1 with
    | int i =>
      cases r2 with
      | int j =>
        have h2 : Post S (fun H' (p : Addr × List V) ds => RpA S.c H' p.2 ds) σ Z H2 (fun p H' => H' p.1 = none → Q (.ref p.1) (upd H' p.1 (.lst p.2))) (if rngOk i = true ∧ rngOk j = true ∧ (j - i).toNat ≤ 16000000 then .ok (rangeD i j) else .un) := h2
        split at h2
        · rename_i hc
          have h3 := of_decide_eq_true hc.1
          have h4 := of_decide_eq_true hc.2.1
          exact ⟨i, j, rfl, rfl, ⟨h3.1, h3.2, h4.1, h4.2, by omega⟩, fun p hp => h2 (p, rgV i j) H2 (Gr.refl H2) (RpA.rg i j) hp⟩
        · exact False.elim h2
      | _ => exact False.elim h2
    | _ => exact False.elim h2
end
end Bv

namespace Bv
open PySem PySem.Spec L2 PyProof.Rows
section
variable {S : Sx}
/-! ### x[i].insert(a, e) -/
def insP (j : Nat) (M : List Nat) (fp : Vw → Nat → D → Rv Foc) (f : Vw → Rv (List D)) (ρ : Env') : Res := match ρ[j]? with
  | some (.ow n d) => (fp (vw [] ρ) n d).st fun p => match p with
    | (_ + 1, .list xs, put) => (f (vw M ρ)).st fun ds => match ds with
      | [.int i, y] => if xs.length < 16000000 ∧ 0 ≤ i ∧ i < 1000000000 ∧ imm y = true then .nx (ρ.set j (.ow n (put (.list (xs.take i.toNat ++ [y] ++ xs.drop i.toNat))))) else .un
      | _ => .un
    | _ => .un
  | _ => .un
theorem ss_insP {j : Nat} {b : Expr} {a e : Expr} {fp : Vw → Nat → D → Rv Foc} {f : Vw → Rv (List D)} {p2 p3 p4 : Pos} (M : List Nat) (hb : SemPa S j b fp) (he : SemA S [a, e] f) (hbase : ∀ env, attributeBase b "insert" env (eval b env) = eval b env := by intro _; rfl)
    (hfew : ∀ env, ((backTo p3 (starEach [a, e] env)).all (fun x => !x.1) && (backToKw p3 (keywordEach [] env)).all (fun x => x.1.isSome)
      && decide (([a, e] : List Expr).length + ([] : List Keyword).length + (if ([] : List Keyword).isEmpty then 0 else 1) < 30)) = true := by intro _; rfl)
    (hline : (p2.endLine == p3.line) = true := by rfl) (hs : ∀ env, starEach [a, e] env = (false, eval a env) :: starEach [e] env := by intro _; rfl) (hplain : ∀ env, (backTo p3 (starEach [e] env)).any (·.1) = false := by intro _; rfl)
    (hsw : ∀ env, swapsWith (.Call (.Attribute b "insert" p2) [a, e] [] p3) none p4.line env = pure false := by intro _; rfl) : SemS S (.Expr (.Call (.Attribute b "insert" p2) [a, e] [] p3) p4) (insP j M fp f) := by
  obtain ⟨tb, pb, qb⟩ := hb.ex
  obtain ⟨t, p, q⟩ := he.ex
  refine ⟨⟨tDrop (tBM S.K "list" rIns tb t), fun X hX => ?_, fun ρ F H0 Z σ H Dn ⟨o, k⟩ h => ?_⟩⟩
  · rw [← hX.hK]
    exact ps_expr (pe_bm PySem.F.plainAttrs_list PySem.F.slot_list_insert PySem.F.type_list_insert mt_insert (pb X hX) (p X hX) (hbase _) (hfew _) hline (hs _) (hplain _)) (hsw _)
  unfold insP at h
  split at h
  · rename_i n d hj
    obtain ⟨⟨v0, s1, tr⟩, s2⟩ := k.ow j _ _ hj
    refine qb (vw [] ρ) σ H (hz Z ρ o []) n d v0 (o j) _ k.hin k.view s1 tr ?_
    cases ep : fp (vw [] ρ) n d with
    | un => rw [ep] at h; exact h
    | xc x => rw [ep] at h; exact fun cls dx H' e q => h cls dx σ H' (k.gr.trans e) (k.out e) (q.gr ((Gr.refl H').hid2 fun a z => .inl z))
    | ok pp =>
      obtain ⟨m, d', put⟩ := pp
      rw [ep] at h
      simp only [Rv.st_ok] at h
      intro v' U' H1 g1 zp
      split at h
      · rename_i m' xs put' hq
        cases hq
        obtain ⟨a, vs, W, rfl, rfl, s4, s5, s6⟩ := zp.tree.isL
        refine ⟨.inl ⟨rfl, vs, .inl (.inl s4)⟩, ?_⟩
        have k1 := k.grow g1
        refine q (vw M ρ) σ H1 (hz Z ρ o M) _ k1.hin k1.view (run_eg (R := RA S) k1 h fun ds v H' _ g2 k' r h' => ?_)
        have zp' := zp.gr (H' := H') (g2.hid (hz Z ρ o [])) fun a ha => by rw [tr.same (g1.trans g2) ha, tr.same g1 ha]
        obtain ⟨a', vs', W', ea, hU', w4, w5, w6⟩ := zp'.tree.isL
        cases ea
        cases hU'
        have hl := TreeA.length w5
        split at h'
        · rename_i w0 i y _
          split at h'
          · rename_i hc
            cases r with
            | cons r1 r2 =>
              cases r2 with
              | @cons yv _ _ _ r2 r3 =>
                cases r3
                cases r1
                refine ⟨a, vs', i, yv, rfl, rfl, w4, line_gt (by omega), hc.2.1, by omega, ?_⟩
                have aIn : a ∈ o j := zp'.sub a List.mem_cons_self
                refine h' _ _ ⟨o, k'.change hj s1 (fun b hb => upd_ne fun z => hb (z ▸ aIn)) fun Hv eh => ?_⟩
                refine zp'.back Hv _ _ eh (fun b hb hn => upd_ne fun z => hn (z ▸ List.mem_cons_self)) ?_
                exact .lst upd_same (TreeA.ins (.leaf hc.2.2.2 ((k'.imm hc.2.2.2 r2).gr eh)) i.toNat (TreeA.gr eh (fun b hb => upd_ne fun z => w6 (z ▸ hb)) w5)) w6
          · exact False.elim h'
        · exact False.elim h'
      · exact False.elim h
  · exact False.elim h
end
end Bv

namespace Bv
open PySem PySem.Spec L2 PyProof.Rows
theorem sw_cell {elt : Expr} {gs : List Comprehension} {scope : Scope} {pos py : Pos} {y : Str} {l : Nat} {env : Env} (hy : env.scope.names.lookup y = some .cell) :
    swapsWith (.ListComp elt gs scope pos) (some (.Name y py)) l env = pure false := by
  have ky : env.kindOf y = some .cell := hy
  unfold swapsWith
  simp only [ky]
  have : (some NameKind.cell == some NameKind.local) = false := by decide
  simp only [this, Bool.and_false, Bool.false_and]
section
variable {S : Sx}
/-- x = [..], x one that a block reads -/
theorem ss_setXc {i n : Nat} {x : Str} {elt : Expr} {gs : List Comprehension} {scope : Scope} {lp : Pos} {f : Vw → Rv D} {pos pos' : Pos} (M : List Nat) (he : SemX S n (.ListComp elt gs scope lp) f) (hi : S.N[i]? = some x := by rfl) (hx : L2.Loc S.sc x := by first | exact Or.inl rfl | exact Or.inr rfl) (hst : S.st x = true := by rfl) (hc : S.sc.names.lookup x = some .cell := by rfl) : SemS S (.Assign [.Name x pos'] (.ListComp elt gs scope lp) pos) (asgX i n M f) := by
  obtain ⟨t, p, q⟩ := he.ex
  refine ⟨⟨_, fun X hX => ps_set hX.nd (by rw [hX.hN]; exact hi) (by rw [hX.hsc]; exact hx) (p X hX) (sw_cell (by rw [hX.hsc]; exact hc)) (hX.fnl x hx hst), fun ρ F H0 Z σ H Dn ⟨o, k⟩ h => ?_⟩⟩
  refine q (vw M ρ) σ H (hz Z ρ o M) _ k.hin k.view (run_x k h fun d v H' U _ e hU t h' => ?_)
  split at h'
  · rename_i hl
    refine h' _ _ ⟨_, (k.freeze M).layT e hU (by rw [frz_length]; exact hl) fun Hv eh => t.gr (Gr.trans ((Gr.refl H').hid2 fun a y => ?_) eh) fun _ _ => rfl⟩
    exact y.imp (fun y => (hz_frz a).mp y) id
  · exact False.elim h'
/-- x = [..] of data, x one that a block reads -/
theorem ss_setFc {i : Nat} {x : Str} {elt : Expr} {gs : List Comprehension} {scope : Scope} {lp : Pos} {f : Vw → Rv (List D)} {pos pos' : Pos} (M : List Nat) (he : SemF S (.ListComp elt gs scope lp) f) (hi : S.N[i]? = some x := by rfl) (hx : L2.Loc S.sc x := by first | exact Or.inl rfl | exact Or.inr rfl) (hst : S.st x = true := by rfl) (hc : S.sc.names.lookup x = some .cell := by rfl) : SemS S (.Assign [.Name x pos'] (.ListComp elt gs scope lp) pos) (asgF i M f) := by
  obtain ⟨t, p, q⟩ := he.ex
  refine ⟨⟨_, fun X hX => ps_set hX.nd (by rw [hX.hN]; exact hi) (by rw [hX.hsc]; exact hx) (p X hX) (sw_cell (by rw [hX.hsc]; exact hc)) (hX.fnl x hx hst), fun ρ F H0 Z σ H Dn ⟨o, k⟩ h => ?_⟩⟩
  refine q (vw M ρ) σ H (hz Z ρ o M) _ k.hin k.view (run_e (R := fun H' (p : Addr × List V) ds => RpA S.c H' p.2 ds) k h fun ds v H' _ k' r h' hp => ?_)
  split at h'
  · rename_i hl
    by_cases hm : immA ds = true
    · rw [if_pos hm] at h'
      exact h' _ _ ⟨_, k'.lay hp hl (k'.immA hm r)⟩
    · rw [if_neg hm] at h'
      exact h' _ _ ⟨_, (k'.freeze M).lay hp (by rw [frz_length]; exact hl) (by rw [hid_frz]; exact r)⟩
  · exact False.elim h'
end
end Bv

namespace Bv
open PySem PySem.Spec L2 PyProof.Rows

/-! ### [elt for c in text if ..] -/
theorem walk_Its {z : Str} : Walk (Its z) z.cps.size (fun _ => True) (fun i H x H' => H' = H ∧ ∃ c, z.cps[i]? = some c ∧ x = .str ⟨#[c]⟩) where
  goes := fun i H hi h => hi
  stops := fun H h => Nat.le_refl _
  yields := fun i H x H' hi h y => y
def signs (z : Str) : List D := z.cps.toList.map fun c => .str ⟨#[c]⟩
theorem signs_length (z : Str) : (signs z).length = z.cps.size := by simp [signs]
theorem signs_get {z : Str} {i : Nat} {c : Nat} (h : z.cps[i]? = some c) : (signs z)[i]? = some (.str ⟨#[c]⟩) := by
  unfold signs
  rw [List.getElem?_map, Array.getElem?_toList, h]; rfl
def dSigns : D → Option (List D)
  | .str z => some (signs z)
  | _ => none
@[simp] theorem dSigns_s (z : Str) : dSigns (.str z) = some (signs z) := rfl
def srcS (f : Vw → Rv D) (η : Vw) : Rv (List D) := (f η).bind fun d => match dSigns d with | some xs => .ok xs | none => .un
section
variable {S : Sx}
theorem sc_str {n : Nat} {elt tg iter : Expr} {ifs : List Expr} {scope : Scope} {b : D → Vw → Option Vw} {ft : Vw → Rv Bool} {fe : Vw → Rv D} {f : Vw → Rv D} (own : List (Str × Nat)) (vs : List Nat) (hi : SemE S iter f) (hb : blkC S.N S.sc scope own = true) (hg : SemTv (S.blk scope) tg vs b)
    (ht : SemP (S.blk scope) ifs ft) (he : SemX (S.blk scope) n elt fe) (hv : own.map (·.2) = vs := by rfl) : SemC S n elt tg iter ifs scope (cmp vs b ft fe (srcS f)) := by
  obtain ⟨ti, pi, qi⟩ := hi.ex
  obtain ⟨g, pg, qg⟩ := hg.ex
  obtain ⟨tt, pt, qt⟩ := ht.ex
  obtain ⟨te, pe, qe⟩ := he.ex
  refine ⟨⟨iStr ti, g, tt, te, own, fun X hX => ?_, fun X hX => blkOk_by (by rw [hX.hN, hX.hsc]; exact hb), pg, pt, pe, hv.symm ▸ (fun η σ H Z Q z hη h => ?_)⟩⟩
  · exact pi_str (pi X hX)
  · unfold cmp srcS at h
    refine qi η σ H Z _ z hη ?_
    cases ef : f η with
    | un => rw [ef] at h; exact False.elim h
    | xc x => rw [ef] at h; exact h
    | ok d =>
      rw [ef] at h
      intro v H' e r
      cases r with
      | str t =>
        simp only [Rv.bind_ok, dSigns_s] at h
        split at h
        · rename_i hl
          cases ec : compL b ft fe (signs t) (wipeV vs η) with
          | un => rw [ec] at h; exact False.elim h
          | xc x => exact absurd ec (compL_nox _ _ _)
          | ok fin =>
            rw [ec] at h
            have hf := Nat.le_trans (compL_len ec) hl
            have hp : PostFX S n σ Z H' Q (.ok fin) := h.gr e
            refine ⟨t, rfl, fun Dl hD => ?_⟩
            refine lc_it (walk_Its (z := t)) (fun i H2 => Fills S n H' Z Dl fin (compL b ft fe ((signs t).drop i) (wipeV vs η)) H2) (fill_start hD ec) (fun i H2 _ w => trivial) ?_ ?_
            · rintro i x H2 H3 hlt w ⟨rfl, c, hc, rfl⟩
              have w : Fills S n H' Z Dl fin (compL b ft fe ((signs t).drop i) (wipeV vs η)) H3 := w
              rw [drop_cons (signs_get hc)] at w
              exact fill_turn (scope := scope) qg qt qe (z.gr e) (hη.gr (e.hid Z)) hD hf (.str _) (wipe_wipe σ _) w fun H3 w3 => w3
            · intro H2 w
              have w : Fills S n H' Z Dl fin (compL b ft fe ((signs t).drop t.cps.size) (wipeV vs η)) H2 := w
              rw [← signs_length, List.drop_length] at w
              exact fill_end hD (z.gr e) hp w
        · exact False.elim h
      | _ => exact False.elim h
end
end Bv

namespace Bv
open PySem PySem.Spec L2 PyProof.Rows
/-! ### an exception made, held as a value -/
theorem pe_mkx {X : Cx} {e : Expr} {t : L2.St → Hp → XK → Prop} (h : PMk X e t) : PE X e (fun σ H Q => t σ H fun cls d H' => ∃ C, cls = .ref C ∧ ∀ a, H' a = none → Q (.ref a) (upd H' a (rawE a C d))) := by
  refine ⟨fun pins s σ H Q I q => ?_⟩
  refine wpAny_mono (h pins s σ H _ I q) (fun u s1 hu => ?_) fun _ _ x => x
  obtain ⟨a, oe, vs, sI, H', cls, d, rfl, J, k, hne, ha, hz, hd, h1, na, os, ag, r, C, rfl, q⟩ := hu
  obtain ⟨hI, gI, dI, tI, oI⟩ := sI
  obtain ⟨h', g', d', t', o'⟩ := s1
  have os : o' = oI := os
  exact ⟨.ref a, _, J.call' (ch := []) os (Un.laidN k hne na) (J.hok.laidN k na (rawE_ok ha hz hd)) ag (fun b z => absurd z (by simp)), rfl, q a na⟩
def mkx (x f : Str) (g : Vw → Rv D) (η : Vw) : Rv D := (g η).bind fun d => .ok (excD ⟨x, [(f, d)]⟩)
section
variable {S : Sx}
theorem se_mkx0 {x m : Str} {j} {p p2 pos : Pos} (R : Rais0 S.toWd x) (hg : S.sc.names.lookup x = some .globalImplicit := by rfl) (hdb : (x == ("__debug__" : Str)) = false := by decide) :
    SemE S (.Call (.Name x p) [.Constant (.str m) j p2] [] pos) (cst (excD ⟨x, []⟩)) := by
  obtain ⟨C, r1, r2, r3, r4, r5⟩ := R.ex
  refine ⟨⟨_, fun X hX => pe_mkx (pmk_own PySem.F.excBase_ValueError (by rw [hX.hK]; exact r2) (by rw [hX.hmg]; exact r1) (by rw [hX.hK]; exact r3) (raises_own (by rw [hX.hK]; exact r4) (by rw [hX.hK]; exact r5)) (by show X.env.scope.names.lookup x = _; rw [hX.hsc]; exact hg) hdb), fun η σ H Z Q z hη h => ?_⟩⟩
  refine ⟨C, rfl, fun a na => ?_⟩
  exact h _ _ (Gr.new na) (.exc0 (by rw [hid_no (z.not na), upd_same]) r1)
theorem se_mkx1 {x f : Str} {k : Nat} {e : Expr} {g : Vw → Rv D} {p pos : Pos} (R : RaisI S.toWd k x f) (he : SemE S e g) (hk : Nat.ble (k + 1) S.k = true := by rfl) (hg : S.sc.names.lookup x = some .globalImplicit := by rfl) (hdb : (x == ("__debug__" : Str)) = false := by decide)
    (hs : ∀ env, starEach [e] env = (false, eval e env) :: starEach [] env := by intro _; rfl) (hpl : ∀ env, (backTo pos (starEach [] env)).any (·.1) = false := by intro _; rfl) :
    SemE S (.Call (.Name x p) [e] [] pos) (mkx x f g) := by
  obtain ⟨C, fI, fd, ps, r1, r2, r3, r4, r5, r6, r7⟩ := R.ex
  obtain ⟨t, pe, qe⟩ := he.ex
  refine ⟨⟨fun σ H Q => tMkO C (spI S.K f) [] (tCons t tNil) σ H fun cls d H' => ∃ C, cls = .ref C ∧ ∀ a, H' a = none → Q (.ref a) (upd H' a (rawE a C d)), fun X hX => ?_, fun η σ H Z Q z hη h => ?_⟩⟩
  · exact pe_mkx (pmk_oex (CX := CX0) (by rw [hX.hK]; exact r2) (by rw [hX.hK]; exact r3) (by rw [hX.hK]; exact r4) (by rw [hX.hP, hX.hw, hX.hK, hX.hmg, hX.hb]; exact r6) (hX.hr.mono (Nat.le_of_ble_eq_true hk)) (by rw [hX.hK]; exact r7) .nil pass0
      (by show X.env.scope.names.lookup x = _; rw [hX.hsc]; exact hg) (by rw [hX.hmg]; exact r1) (pa_cons (pe X hX) pa_nil (hs _)) hdb (hs _) (hpl _))
  · refine qe η σ H Z _ z hη (Post.bind h fun d v H1 _ e1 r h1 => ?_)
    refine ⟨by simp, fun a na => ⟨a, C, v, rfl, r2, r5, upd_same, fun dx nd hne => ⟨rfl, dx, [(f, v)], upd_same, by rw [upd_ne hne, upd_same], by rw [upd_ne hne] at nd; exact nd, ?_⟩⟩⟩
    rw [upd_ne hne] at nd
    have eH : upd (L2.del (upd (upd (upd H1 a (exo a C none)) dx (exd dx [(f, v)])) a (exo a C (some dx))) a) dx (.xd [(f, v)]) = upd H1 dx (.xd [(f, v)]) := by
      funext b
      by_cases hb : b = dx
      · subst hb; rw [upd_same, upd_same]
      · rw [upd_ne hb, upd_ne hb]
        by_cases hba : b = a
        · subst hba; rw [del_same, na]
        · rw [del_ne hba, upd_ne hba, upd_ne hb, upd_ne hba]
    rw [eH]
    refine ⟨C, rfl, fun a2 n2 => ?_⟩
    have g1 : Gr H1 (upd H1 dx (.xd [(f, v)])) := Gr.new nd
    have g2 : Gr H1 (upd (upd H1 dx (.xd [(f, v)])) a2 (rawE a2 C (some dx))) := g1.trans (Gr.new n2)
    have z1 := z.gr e1
    have hne2 : dx ≠ a2 := fun q => by rw [← q, upd_same] at n2; cases n2
    have n2' : H1 a2 = none := (upd_ne (Ne.symm hne2)).symm.trans n2
    refine h1 _ _ g2 (.exc1 (dd := dx) (v := v) (by rw [hid_no (z1.not n2'), upd_same]) r1 (by rw [hid_no (z1.not nd), upd_ne hne2, upd_same]) (r.gr (g2.hid Z)))
end
/-! ### text * n -/
def dMulS : D → D → Rv D
  | .str x, .int n => if 0 ≤ n ∧ n ≤ 100000 ∧ x.length * n.toNat ≤ 16000000 then .ok (.str (Txt.mul x n)) else .un
  | _, _ => .un
@[simp] theorem dMulS_s (x : Str) (n : Int) : dMulS (.str x) (.int n) = if 0 ≤ n ∧ n ≤ 100000 ∧ x.length * n.toNat ≤ 16000000 then .ok (.str (Txt.mul x n)) else .un := rfl
def rMulS : V → V → Hp → VK → Prop := fun x y H Q => ∃ s n, x = .str s ∧ y = .int n ∧ MulOk s n ∧ Q (.str (Txt.mul s n)) H
section
variable {X : Cx} {S : Sx} {a b : Expr} {fa fb : Vw → Rv D} {pos : Pos}
theorem op_mulS : OpR X (binaryOp .Mult) rMulS := by
  intro pins s σ H x y v u Q I rx ry h
  obtain ⟨i, j, rfl, rfl, hz, q⟩ := h
  obtain ⟨t, rfl⟩ := rx
  obtain ⟨t', rfl⟩ := ry
  exact SB.mul hz fun t' k => ⟨.str (Txt.mul i j), H, I.tok k, ⟨_, rfl⟩, q⟩
theorem o2_mulS : Op2 S rMulS dMulS := by
  intro x y a b H Z Q σ z ra rb h
  cases ra with
  | str i =>
    cases rb with
    | int n =>
      rw [dMulS_s] at h
      split at h
      · rename_i hl
        refine ⟨i, n, rfl, rfl, ⟨by simp; omega, fun h1 _ => ?_, fun h1 _ => ?_⟩, Post.ok (R := RE S) h (.str _)⟩
        · have : (i.length : Int) ≤ (2 ^ 63 - 1) / n := by
            rw [Int.le_ediv_iff_mul_le (by omega)]
            have e : ((i.length * n.toNat : Nat) : Int) = (i.length : Int) * n := by rw [Int.natCast_mul, Int.toNat_of_nonneg hl.1]
            omega
          omega
        · have := line_of hl.2.2
          show decide (i.length * n.toNat > sizeLine) = false
          simp
          omega
      · exact False.elim h
    | _ => exact False.elim h
  | _ => exact False.elim h
theorem se_mulS (ha : SemE S a fa) (hb : SemE S b fb) : SemE S (.BinOp a .Mult b pos) (bi2 dMulS fa fb) := se_op (fun _ _ => op_mulS) o2_mulS ha hb
end
end Bv

namespace K63
open PySem PySem.Spec L2 PyProof.Rows Bv
def top (i : Nat) : Stmt := PySem.Challenge.pw_farend_k63_wrong_texts_of_jobs.main.body.getD i (.Pass ⟨0, 0, 0, 0⟩)
abbrev s_init_NoText : Stmt := inClass (top 9) 0
theorem c_init_NoText : FnScope ["self", "line"] ["self", "line"] (defScope s_init_NoText) := ⟨rfl, rfl, rfl, by decide +kernel, rfl, by decide +kernel, by decide +kernel⟩
theorem f_init_NoText {T : Wd} {CB fI : Addr} {fd : FuncData} (F : Fun T.K "__init__" "NoText.__init__" s_init_NoText fI fd) (hm : T.mg "FarError" = some (.ref CB)) (h1 : PySem.W.specialIn T.K (.ref CB) "__getattribute__" = some (some (.builtin "type.__getattribute__")))
    (h2 : PySem.W.readsIn T.K CB (.type "type") = true) (h3 : PySem.W.findCls T.K (.ref CB) (.type "type") "__init__" = some (.val (.builtin "ValueError.__init__"))) : FnOk T.P T.w T.K T.mg T.base CX0 1 fI fd ["self", "line"] (spI T.K "line") := by
  refine F.ok (k := 0) c_init_NoText (fun vs H Q E ⟨a, C, v, h, _⟩ => by rw [h]; rfl) fun cdv A outer s H vs Q E hr ⟨a, C, v, ev, T1, hno, ea, q⟩ => ?_
  subst ev
  refine ⟨_, pss_cons (ps_expr (pe_finit (mc := .type "type") rfl hm h1 h2 h3 (pa_cons (pv 0) (pa_cons pe_str pa_nil)))) (pss_one (ps_ost (pv 0) (pv 1))), ?_⟩
  exact ⟨_, rfl, a, C, _, rfl, by simp, T1, ea, v, rfl, _, rfl, a, C, rfl, T1, hno, .inl ⟨ea, q⟩⟩

/-! is_whole -/
abbrev s_is_whole : Stmt := top 14
def m_is_whole : Env' → Res :=
  (ret [] (vand (isi "int" (var 0)) (vnot (isi "bool" (var 0)))))
def f_is_whole (ds : List D) : Rv D := (m_is_whole (entry 0 ds)).fin
theorem c_is_whole : FnScope ["thing"] ["thing"] (defScope s_is_whole) := ⟨rfl, rfl, rfl, by decide +kernel, rfl, by decide +kernel, by decide +kernel⟩
theorem d_is_whole {T : Wd} (m_isinstance : T.mg "isinstance" = none) (m_bool : T.mg "bool" = none) (m_int : T.mg "int" = none) (E : XK) : SemSs ⟨T, 0, ["thing"], defScope s_is_whole, wAll E, true, fun _ => true, 0⟩ (defBody s_is_whole) m_is_whole :=
  (sss_one (ss_ret [] (se_and (se_isi m_isinstance m_int (by decide +kernel) (se_var 0)) (se_one (se_not (se_isi m_isinstance m_bool (by decide +kernel) (se_var 0)))))))
theorem k_is_whole {T : Wd} (m_isinstance : T.mg "isinstance" = none) (m_bool : T.mg "bool" = none) (m_int : T.mg "int" = none) {f : Addr} {fd : FuncData} (F : Fun T.K "is_whole" "is_whole" s_is_whole f fd) (g : T.mg "is_whole" = some (.ref f)) : Lk T 1 "is_whole" 1 f_is_whole :=
  ⟨f, fd, ["thing"], (fnG_of (tr := 0) F c_is_whole rfl rfl (d_is_whole m_isinstance m_bool m_int)).weak rfl, g, F.kp, F.binds fun _ _ _ _ _ _ us hl => match us, hl with | [_], _ => rfl⟩

/-! is_step -/
abbrev s_is_step : Stmt := top 15
def m_is_step : Env' → Res :=
  (sseq (sif [] (tor (tnot (asB (isi "tuple" (var 0)))) (tor (asB (bi2 dEq (var 0) (tupD anil))) (tnot (asB (isi "str" (bi2 dIx (var 0) (cst (.int 0))))))))
      (ret [] (cst (.bool false)))
      snext)
    (sseq (sif [] (asB (bi2 dInQ (bi2 dIx (var 0) (cst (.int 0))) (tupD (acons (cst (.str "do")) (acons (cst (.str "wait")) anil)))))
      (ret [] (bi2 dEq (cal dLen (acons (var 0) anil)) (cst (.int 1))))
      snext)
    (ret [] (vand (bi2 dEq (bi2 dIx (var 0) (cst (.int 0))) (cst (.str "send"))) (vand (bi2 dEq (cal dLen (acons (var 0) anil)) (cst (.int 2))) (cal f_is_whole (acons (bi2 dIx (var 0) (cst (.int 1))) anil)))))))
def f_is_step (ds : List D) : Rv D := (m_is_step (entry 0 ds)).fin
theorem c_is_step : FnScope ["thing"] ["thing"] (defScope s_is_step) := ⟨rfl, rfl, rfl, by decide +kernel, rfl, by decide +kernel, by decide +kernel⟩
theorem d_is_step {T : Wd} (l_is_whole : Lk T 1 "is_whole" 1 f_is_whole) (m_isinstance : T.mg "isinstance" = none) (m_str : T.mg "str" = none) (m_tuple : T.mg "tuple" = none) (m_len : T.mg "len" = none) (E : XK) : SemSs ⟨T, 1, ["thing"], defScope s_is_step, wAll E, true, fun _ => true, 0⟩ (defBody s_is_step) m_is_step :=
  (sss_cons (ss_if [] (st_w (sw_or (st_not (st_val (se_isi m_isinstance m_tuple (by decide +kernel) (se_var 0)))) (sw_or (st_eq (se_var 0) (se_tup sa_nil)) (sw_or1 (st_not (st_val (se_isi m_isinstance m_str (by decide +kernel) (se_ix (se_var 0) se_int))))))))
      (sss_one (ss_ret [] se_bl))
      sss_nil)
    (sss_cons (ss_if [] (st_inQ (se_ix (se_var 0) se_int) (se_tup (sa_cons se_str (sa_cons se_str sa_nil))))
      (sss_one (ss_ret [] (se_eq (se_callB (fun X hX => hX.hK ▸ call_lenA) on_len m_len PySem.boot_len (sa_cons (se_var 0) sa_nil)) se_int)))
      sss_nil)
    (sss_one (ss_ret [] (se_and (se_eq (se_ix (se_var 0) se_int) se_str) (se_and (se_eq (se_callB (fun X hX => hX.hK ▸ call_lenA) on_len m_len PySem.boot_len (sa_cons (se_var 0) sa_nil)) se_int) (se_one (se_call l_is_whole (sa_cons (se_ix (se_var 0) se_int) sa_nil) (acons_len anil_len)))))))))
theorem k_is_step {T : Wd} (l_is_whole : Lk T 1 "is_whole" 1 f_is_whole) (m_isinstance : T.mg "isinstance" = none) (m_str : T.mg "str" = none) (m_tuple : T.mg "tuple" = none) (m_len : T.mg "len" = none) {f : Addr} {fd : FuncData} (F : Fun T.K "is_step" "is_step" s_is_step f fd) (g : T.mg "is_step" = some (.ref f)) : Lk T 2 "is_step" 1 f_is_step :=
  ⟨f, fd, ["thing"], (fnG_of (tr := 0) F c_is_step rfl rfl (d_is_step l_is_whole m_isinstance m_str m_tuple m_len)).weak rfl, g, F.kp, F.binds fun _ _ _ _ _ _ us hl => match us, hl with | [_], _ => rfl⟩

/-! is_work -/
abbrev s_is_work : Stmt := top 16
def m_is_work : Env' → Res :=
  (sseq (sif [] (tor (tnot (asB (isi "tuple" (var 0)))) (asB (bi2 dNe (cal dLen (acons (var 0) anil)) (cst (.int 2)))))
      (ret [] (cst (.bool false)))
      snext)
    (sseq (sif [] (tor (tnot (asB (cal f_is_whole (acons (bi2 dIx (var 0) (cst (.int 0))) anil)))) (tor (tnot (asB (chn dLe dLe (cst (.int 1)) (bi2 dIx (var 0) (cst (.int 0))) (cst (.int 9))))) (tnot (asB (isi "tuple" (bi2 dIx (var 0) (cst (.int 1))))))))
      (ret [] (cst (.bool false)))
      snext)
    (ret [] (vand (chn dLe dLe (cst (.int 1)) (cal dLen (acons (bi2 dIx (var 0) (cst (.int 1))) anil)) (cst (.int 8))) (cal dAll (acons (lstD (cmp [1] (vName 1) yes (cal f_is_step (acons (var 1) anil)) (srcE (bi2 dIx (var 0) (cst (.int 1)))))) anil))))))
def f_is_work (ds : List D) : Rv D := (m_is_work (entry 1 ds)).fin
theorem c_is_work : FnScope ["thing", "step"] ["thing"] (defScope s_is_work) := ⟨rfl, rfl, rfl, by decide +kernel, rfl, by decide +kernel, by decide +kernel⟩
theorem d_is_work {T : Wd} (l_is_whole : Lk T 1 "is_whole" 1 f_is_whole) (l_is_step : Lk T 2 "is_step" 1 f_is_step) (m_len : T.mg "len" = none) (m_isinstance : T.mg "isinstance" = none) (m_tuple : T.mg "tuple" = none) (m_all : T.mg "all" = none) (gi_MOST_ROOM_jobs : GInt T "MOST_ROOM_jobs" 9) (gi_MOST_STEPS_jobs : GInt T "MOST_STEPS_jobs" 8) (E : XK) : SemSs ⟨T, 2, ["thing", "step"], defScope s_is_work, wAll E, true, fun _ => true, 0⟩ (defBody s_is_work) m_is_work :=
  (sss_cons (ss_if [] (st_w (sw_or (st_not (st_val (se_isi m_isinstance m_tuple (by decide +kernel) (se_var 0)))) (sw_or1 (st_ne (se_callB (fun X hX => hX.hK ▸ call_lenA) on_len m_len PySem.boot_len (sa_cons (se_var 0) sa_nil)) se_int))))
      (sss_one (ss_ret [] se_bl))
      sss_nil)
    (sss_cons (ss_if [] (st_w (sw_or (st_not (st_val (se_call l_is_whole (sa_cons (se_ix (se_var 0) se_int) sa_nil) (acons_len anil_len)))) (sw_or (st_not (st_chain (fun _ _ => op_le) (fun _ _ => op_le) o2_rel o2_rel se_int (se_ix (se_var 0) se_int) (se_gint gi_MOST_ROOM_jobs))) (sw_or1 (st_not (st_val (se_isi m_isinstance m_tuple (by decide +kernel) (se_ix (se_var 0) se_int))))))))
      (sss_one (ss_ret [] se_bl))
      sss_nil)
    (sss_one (ss_ret [] (se_and (se_chain (fun _ _ => op_le) (fun _ _ => op_le) o2_rel o2_rel se_int (se_callB (fun X hX => hX.hK ▸ call_lenA) on_len m_len PySem.boot_len (sa_cons (se_ix (se_var 0) se_int) sa_nil)) (se_gint gi_MOST_STEPS_jobs)) (se_one (se_callB (fun X hX => hX.hK ▸ cr_all hX.calm) on_all m_all (by decide +kernel) (sa_cons (SemF.e (SemC.f (sc_list [("step", 1)] [1] (se_ix (se_var 0) se_int) (by show blkC ["thing", "step"] (defScope s_is_work) _ _ = true; decide +kernel) (tv_name 1) sp_nil (sx_e (se_call l_is_step (sa_cons (se_var 1) sa_nil) (acons_len anil_len)))))) sa_nil))))))))
theorem k_is_work {T : Wd} (l_is_whole : Lk T 1 "is_whole" 1 f_is_whole) (l_is_step : Lk T 2 "is_step" 1 f_is_step) (m_len : T.mg "len" = none) (m_isinstance : T.mg "isinstance" = none) (m_tuple : T.mg "tuple" = none) (m_all : T.mg "all" = none) (gi_MOST_ROOM_jobs : GInt T "MOST_ROOM_jobs" 9) (gi_MOST_STEPS_jobs : GInt T "MOST_STEPS_jobs" 8) {f : Addr} {fd : FuncData} (F : Fun T.K "is_work" "is_work" s_is_work f fd) (g : T.mg "is_work" = some (.ref f)) : Lk T 3 "is_work" 1 f_is_work :=
  ⟨f, fd, ["thing"], (fnG_of (tr := 0) F c_is_work rfl rfl (d_is_work l_is_whole l_is_step m_len m_isinstance m_tuple m_all gi_MOST_ROOM_jobs gi_MOST_STEPS_jobs)).weak rfl, g, F.kp, F.binds fun _ _ _ _ _ _ us hl => match us, hl with | [_], _ => rfl⟩

/-! sent_by -/
abbrev s_sent_by : Stmt := top 17
def m_sent_by : Env' → Res :=
  (ret [] (lstD (cmp [1] (vName 1) (asB (bi2 dEq (bi2 dIx (var 1) (cst (.int 0))) (cst (.str "send")))) (bi2 dIx (var 1) (cst (.int 1))) (srcE (bi2 dIx (var 0) (cst (.int 1)))))))
def f_sent_by (ds : List D) : Rv D := (m_sent_by (entry 1 ds)).fin
theorem c_sent_by : FnScope ["work", "step"] ["work"] (defScope s_sent_by) := ⟨rfl, rfl, rfl, by decide +kernel, rfl, by decide +kernel, by decide +kernel⟩
theorem d_sent_by {T : Wd} (E : XK) : SemSs ⟨T, 0, ["work", "step"], defScope s_sent_by, wAll E, true, fun _ => true, 1⟩ (defBody s_sent_by) m_sent_by :=
  (sss_one (ss_retX (n := 1) [] (SemC.x (sc_list [("step", 1)] [1] (se_ix (se_var 0) se_int) (by show blkC ["work", "step"] (defScope s_sent_by) _ _ = true; decide +kernel) (tv_name 1) (sp_one (st_eq (se_ix (se_var 1) se_int) se_str)) (sx_e (se_ix (se_var 1) se_int))))))
theorem k_sent_by {T : Wd} {f : Addr} {fd : FuncData} (F : Fun T.K "sent_by" "sent_by" s_sent_by f fd) (g : T.mg "sent_by" = some (.ref f)) : LkT T 1 "sent_by" 1 1 f_sent_by :=
  ⟨f, fd, ["work"], (fnG_of (tr := 1) F c_sent_by rfl rfl (d_sent_by)), g, F.kp, F.binds fun _ _ _ _ _ _ us hl => match us, hl with | [_], _ => rfl, rfl⟩

/-! is_job -/
abbrev s_is_job : Stmt := top 18
def m_is_job : Env' → Res :=
  (sseq (sif [] (tor (tnot (asB (isi "tuple" (var 0)))) (tnot (asB (chn dLe dLe (cst (.int 1)) (cal dLen (acons (var 0) anil)) (cst (.int 12))))))
      (ret [] (cst (.bool false)))
      snext)
    (sseq (sif [] (tnot (asB (cal dAll (acons (lstD (cmp [3] (vName 3) yes (cal f_is_work (acons (var 3) anil)) (srcE (var 0)))) anil))))
      (ret [] (cst (.bool false)))
      snext)
    (sseq (asgF 1 [] (lstF anil))
    (sseq (sforR rng1 [] (bName 2) (acons (cal dLen (acons (var 0) anil)) anil)
      (sseq (sif [] (tnot (asB (cal dAll (acons (lstD (cmp [4] (vName 4) yes (bi2 dGt (var 4) (var 2)) (srcE (cal f_sent_by (acons (bi2 dIx (var 0) (var 2)) anil))))) anil))))
        (ret [] (cst (.bool false)))
        snext)
      (ext 1 [] (cal f_sent_by (acons (bi2 dIx (var 0) (var 2)) anil)))))
    (ret [1] (bi2 dEq (lstD (calF dSortedA (acons (var 1) anil))) (lstD (rgF (cst (.int 1)) (cal dLen (acons (var 0) anil))))))))))
def f_is_job (ds : List D) : Rv D := (m_is_job (entry 4 ds)).fin
theorem c_is_job : FnScope ["thing", "found", "number", "work", "child"] ["thing"] (defScope s_is_job) := ⟨rfl, rfl, rfl, by decide +kernel, rfl, by decide +kernel, by decide +kernel⟩
theorem d_is_job {T : Wd} (l_is_work : Lk T 3 "is_work" 1 f_is_work) (l_sent_by : LkT T 1 "sent_by" 1 1 f_sent_by) (m_len : T.mg "len" = none) (m_isinstance : T.mg "isinstance" = none) (m_tuple : T.mg "tuple" = none) (m_all : T.mg "all" = none) (m_range : T.mg "range" = none) (m_sorted : T.mg "sorted" = none) (m_list : T.mg "list" = none) (gi_MOST_WORKS : GInt T "MOST_WORKS" 12) (E : XK) : SemSs ⟨T, 3, ["thing", "found", "number", "work", "child"], defScope s_is_job, wAll E, true, fun _ => true, 0⟩ (defBody s_is_job) m_is_job :=
  (sss_cons (ss_if [] (st_w (sw_or (st_not (st_val (se_isi m_isinstance m_tuple (by decide +kernel) (se_var 0)))) (sw_or1 (st_not (st_chain (fun _ _ => op_le) (fun _ _ => op_le) o2_rel o2_rel se_int (se_callB (fun X hX => hX.hK ▸ call_lenA) on_len m_len PySem.boot_len (sa_cons (se_var 0) sa_nil)) (se_gint gi_MOST_WORKS))))))
      (sss_one (ss_ret [] se_bl))
      sss_nil)
    (sss_cons (ss_if [] (st_not (st_val (se_callB (fun X hX => hX.hK ▸ cr_all hX.calm) on_all m_all (by decide +kernel) (sa_cons (SemF.e (SemC.f (sc_list [("work", 3)] [3] (se_var 0) (by show blkC ["thing", "found", "number", "work", "child"] (defScope s_is_job) _ _ = true; decide +kernel) (tv_name 3) sp_nil (sx_e (se_call l_is_work (sa_cons (se_var 3) sa_nil) (acons_len anil_len)))))) sa_nil))))
      (sss_one (ss_ret [] se_bl))
      sss_nil)
    (sss_cons (ss_setF (i := 1) [] (sf_lst sa_nil))
    (sss_cons (ss_forR1 [] m_range (tg_name 2) (sa_cons (se_callB (fun X hX => hX.hK ▸ call_lenA) on_len m_len PySem.boot_len (sa_cons (se_var 0) sa_nil)) sa_nil)
      (sss_cons (ss_if [] (st_not (st_val (se_callB (fun X hX => hX.hK ▸ cr_all hX.calm) on_all m_all (by decide +kernel) (sa_cons (SemF.e (SemC.f (sc_list [("child", 4)] [4] (se_call l_sent_by.lk (sa_cons (se_ix (se_var 0) (se_var 2)) sa_nil) (acons_len anil_len)) (by show blkC ["thing", "found", "number", "work", "child"] (defScope s_is_job) _ _ = true; decide +kernel) (tv_name 4) sp_nil (sx_e (se_gt (se_var 4) (se_var 2)))))) sa_nil))))
        (sss_one (ss_ret [] se_bl))
        sss_nil)
      (sss_one (ss_ext (j := 1) [] (sx_call l_sent_by (sa_cons (se_ix (se_var 0) (se_var 2)) sa_nil) (acons_len anil_len))))))
    (sss_one (ss_ret [1] (se_eq (SemF.e (sf_callB (fun X hX => hX.hK ▸ call_sortedA hX.calm) on_sortedA m_sorted (by decide +kernel) (sa_cons (se_var 1) sa_nil))) (SemF.e (sf_listRg m_list m_range se_int (se_callB (fun X hX => hX.hK ▸ call_lenA) on_len m_len PySem.boot_len (sa_cons (se_var 0) sa_nil)))))))))))
theorem k_is_job {T : Wd} (l_is_work : Lk T 3 "is_work" 1 f_is_work) (l_sent_by : LkT T 1 "sent_by" 1 1 f_sent_by) (m_len : T.mg "len" = none) (m_isinstance : T.mg "isinstance" = none) (m_tuple : T.mg "tuple" = none) (m_all : T.mg "all" = none) (m_range : T.mg "range" = none) (m_sorted : T.mg "sorted" = none) (m_list : T.mg "list" = none) (gi_MOST_WORKS : GInt T "MOST_WORKS" 12) {f : Addr} {fd : FuncData} (F : Fun T.K "is_job" "is_job" s_is_job f fd) (g : T.mg "is_job" = some (.ref f)) : Lk T 4 "is_job" 1 f_is_job :=
  ⟨f, fd, ["thing"], (fnG_of (tr := 0) F c_is_job rfl rfl (d_is_job l_is_work l_sent_by m_len m_isinstance m_tuple m_all m_range m_sorted m_list gi_MOST_WORKS)).weak rfl, g, F.kp, F.binds fun _ _ _ _ _ _ us hl => match us, hl with | [_], _ => rfl⟩

/-! number_of -/
abbrev s_number_of : Stmt := top 23
def m_number_of : Env' → Res :=
  (sseq (sif [] (tor (tnot (asB (chn dLe dLe (cst (.int 1)) (cal dLen (acons (var 0) anil)) (cst (.int 2))))) (tnot (asB (cal dAll (acons (lstD (cmp [1] (vName 1) yes (bi2 dInQ (var 1) (cst (.str "0123456789"))) (srcS (var 0)))) anil)))))
      (ret [] (cst .none))
      snext)
    (ret [] (ifx (tand (asB (bi2 dEq (bi2 dIx (var 0) (cst (.int 0))) (cst (.str "0")))) (asB (bi2 dNe (var 0) (cst (.str "0"))))) (cst .none) (cal dIntS (acons (var 0) anil)))))
def f_number_of (ds : List D) : Rv D := (m_number_of (entry 1 ds)).fin
theorem c_number_of : FnScope ["word", "sign"] ["word"] (defScope s_number_of) := ⟨rfl, rfl, rfl, by decide +kernel, rfl, by decide +kernel, by decide +kernel⟩
theorem d_number_of {T : Wd} (m_all : T.mg "all" = none) (m_len : T.mg "len" = none) (m_int : T.mg "int" = none) (gt_FIGURES : GStr T "FIGURES" "0123456789") (E : XK) : SemSs ⟨T, 0, ["word", "sign"], defScope s_number_of, wAll E, true, fun _ => true, 0⟩ (defBody s_number_of) m_number_of :=
  (sss_cons (ss_if [] (st_w (sw_or (st_not (st_chain (fun _ _ => op_le) (fun _ _ => op_le) o2_rel o2_rel se_int (se_callB (fun X hX => hX.hK ▸ call_lenA) on_len m_len PySem.boot_len (sa_cons (se_var 0) sa_nil)) se_int)) (sw_or1 (st_not (st_val (se_callB (fun X hX => hX.hK ▸ cr_all hX.calm) on_all m_all (by decide +kernel) (sa_cons (SemF.e (SemC.f (sc_str [("sign", 1)] [1] (se_var 0) (by show blkC ["word", "sign"] (defScope s_number_of) _ _ = true; decide +kernel) (tv_name 1) sp_nil (sx_e (se_inQ (se_var 1) (se_gstr gt_FIGURES)))))) sa_nil)))))))
      (sss_one (ss_ret [] se_non))
      sss_nil)
    (sss_one (ss_ret [] (se_if (st_w (sw_and (st_eq (se_ix (se_var 0) se_int) se_str) (sw_and1 (st_ne (se_var 0) se_str)))) se_non (se_callTy (fun _ _ => call_intA) on_intS m_int (by decide +kernel) (sa_cons (se_var 0) sa_nil))))))
theorem k_number_of {T : Wd} (m_all : T.mg "all" = none) (m_len : T.mg "len" = none) (m_int : T.mg "int" = none) (gt_FIGURES : GStr T "FIGURES" "0123456789") {f : Addr} {fd : FuncData} (F : Fun T.K "number_of" "number_of" s_number_of f fd) (g : T.mg "number_of" = some (.ref f)) : Lk T 1 "number_of" 1 f_number_of :=
  ⟨f, fd, ["word"], (fnG_of (tr := 0) F c_number_of rfl rfl (d_number_of m_all m_len m_int gt_FIGURES)).weak rfl, g, F.kp, F.binds fun _ _ _ _ _ _ us hl => match us, hl with | [_], _ => rfl⟩

/-! step_of -/
abbrev s_step_of : Stmt := top 24
def m_step_of : Env' → Res :=
  (sseq (sif [] (asB (bi2 dInQ (var 0) (tupD (acons (cst (.str "do")) (acons (cst (.str "wait")) anil)))))
      (ret [] (tupD (acons (var 0) anil)))
      snext)
    (sseq (asg 1 [] (cal f_number_of (acons (slcS (var 0) (osome (cal dLen (acons (cst (.str "send-")) anil))) onone) anil)))
    (ret [] (ifx (tand (asB (bi2 dEq (slcS (var 0) onone (osome (cal dLen (acons (cst (.str "send-")) anil)))) (cst (.str "send-")))) (asB (bi2 dIsNot (var 1) (cst .none)))) (tupD (acons (cst (.str "send")) (acons (var 1) anil))) (cst .none)))))
def f_step_of (ds : List D) : Rv D := (m_step_of (entry 1 ds)).fin
theorem c_step_of : FnScope ["word", "number"] ["word"] (defScope s_step_of) := ⟨rfl, rfl, rfl, by decide +kernel, rfl, by decide +kernel, by decide +kernel⟩
theorem d_step_of {T : Wd} (l_number_of : Lk T 1 "number_of" 1 f_number_of) (m_len : T.mg "len" = none) (E : XK) : SemSs ⟨T, 1, ["word", "number"], defScope s_step_of, wAll E, true, fun _ => true, 0⟩ (defBody s_step_of) m_step_of :=
  (sss_cons (ss_if [] (st_inQ (se_var 0) (se_tup (sa_cons se_str (sa_cons se_str sa_nil))))
      (sss_one (ss_ret [] (se_tup (sa_cons (se_var 0) sa_nil))))
      sss_nil)
    (sss_cons (ss_set (i := 1) [] (se_call l_number_of (sa_cons (se_sliceS (se_var 0) (so_some (se_callB (fun X hX => hX.hK ▸ call_lenA) on_len m_len PySem.boot_len (sa_cons se_str sa_nil))) so_none) sa_nil) (acons_len anil_len)))
    (sss_one (ss_ret [] (se_if (st_w (sw_and (st_eq (se_sliceS (se_var 0) so_none (so_some (se_callB (fun X hX => hX.hK ▸ call_lenA) on_len m_len PySem.boot_len (sa_cons se_str sa_nil)))) se_str) (sw_and1 (st_isnot (se_var 1) se_non)))) (se_tup (sa_cons se_str (sa_cons (se_var 1) sa_nil))) se_non)))))
theorem k_step_of {T : Wd} (l_number_of : Lk T 1 "number_of" 1 f_number_of) (m_len : T.mg "len" = none) {f : Addr} {fd : FuncData} (F : Fun T.K "step_of" "step_of" s_step_of f fd) (g : T.mg "step_of" = some (.ref f)) : Lk T 2 "step_of" 1 f_step_of :=
  ⟨f, fd, ["word"], (fnG_of (tr := 0) F c_step_of rfl rfl (d_step_of l_number_of m_len)).weak rfl, g, F.kp, F.binds fun _ _ _ _ _ _ us hl => match us, hl with | [_], _ => rfl⟩

/-! work_of -/
abbrev s_work_of : Stmt := top 25
def m_work_of : Env' → Res :=
  (sseq (asg 1 [] (lstD (splitM (var 0) (cst (.str " ")))))
    (sseq (asg 2 [] (cal f_number_of (acons (slcS (bi2 dIx (var 1) (cst (.int 0))) onone (osome (una dNeg (cst (.int 1))))) anil)))
    (sseq (asgC 3 0 [] (cmp [4] (vName 4) yes (cal f_step_of (acons (var 4) anil)) (srcE (slc (var 1) (osome (cst (.int 1))) onone))))
    (sseq (sif [] (tor (asB (bi2 dNe (slcS (bi2 dIx (var 1) (cst (.int 0))) (osome (una dNeg (cst (.int 1)))) onone) (cst (.str ":")))) (tor (asB (bi2 dIs (var 2) (cst .none))) (tnot (asB (chn dLe dLe (cst (.int 1)) (var 2) (cst (.int 9)))))))
      (ret [] (cst .none))
      snext)
    (ret [3] (ifx (tand (asB (bi2 dNotInQ (cst .none) (var 3))) (asB (chn dLe dLe (cst (.int 1)) (cal dLen (acons (var 3) anil)) (cst (.int 8))))) (tupD (acons (var 2) (acons (cal dTuple (acons (var 3) anil)) anil))) (cst .none)))))))
def f_work_of (ds : List D) : Rv D := (m_work_of (entry 4 ds)).fin
theorem c_work_of : FnScope ["line", "words", "room", "steps", "word"] ["line"] (defScope s_work_of) := ⟨rfl, rfl, rfl, by decide +kernel, rfl, by decide +kernel, by decide +kernel⟩
theorem d_work_of {T : Wd} (l_number_of : Lk T 1 "number_of" 1 f_number_of) (l_step_of : Lk T 2 "step_of" 1 f_step_of) (m_len : T.mg "len" = none) (m_tuple : T.mg "tuple" = none) (gi_MOST_ROOM_texts : GInt T "MOST_ROOM_texts" 9) (gi_MOST_STEPS_texts : GInt T "MOST_STEPS_texts" 8) (E : XK) : SemSs ⟨T, 2, ["line", "words", "room", "steps", "word"], defScope s_work_of, wAll E, true, fun _ => true, 0⟩ (defBody s_work_of) m_work_of :=
  (sss_cons (ss_set (i := 1) [] (SemF.e (sf_split (se_var 0) se_str)))
    (sss_cons (ss_set (i := 2) [] (se_call l_number_of (sa_cons (se_sliceS (se_ix (se_var 1) se_int) so_none (so_some (se_neg se_int))) sa_nil) (acons_len anil_len)))
    (sss_cons (ss_setC (i := 3) (n := 0) [] (sc_list [("word", 4)] [4] (se_slice (se_var 1) (so_some se_int) so_none) (by show blkC ["line", "words", "room", "steps", "word"] (defScope s_work_of) _ _ = true; decide +kernel) (tv_name 4) sp_nil (sx_e (se_call l_step_of (sa_cons (se_var 4) sa_nil) (acons_len anil_len)))))
    (sss_cons (ss_if [] (st_w (sw_or (st_ne (se_sliceS (se_ix (se_var 1) se_int) (so_some (se_neg se_int)) so_none) se_str) (sw_or (st_is (se_var 2) se_non) (sw_or1 (st_not (st_chain (fun _ _ => op_le) (fun _ _ => op_le) o2_rel o2_rel se_int (se_var 2) (se_gint gi_MOST_ROOM_texts)))))))
      (sss_one (ss_ret [] se_non))
      sss_nil)
    (sss_one (ss_ret [3] (se_if (st_w (sw_and (st_notinQ se_non (se_var 3)) (sw_and1 (st_chain (fun _ _ => op_le) (fun _ _ => op_le) o2_rel o2_rel se_int (se_callB (fun X hX => hX.hK ▸ call_lenA) on_len m_len PySem.boot_len (sa_cons (se_var 3) sa_nil)) (se_gint gi_MOST_STEPS_texts))))) (se_tup (sa_cons (se_var 2) (sa_cons (se_callTy (fun X hX => hX.hK ▸ call_tuple_of) on_tuple m_tuple (by decide +kernel) (sa_cons (se_var 3) sa_nil)) sa_nil))) se_non)))))))
theorem k_work_of {T : Wd} (l_number_of : Lk T 1 "number_of" 1 f_number_of) (l_step_of : Lk T 2 "step_of" 1 f_step_of) (m_len : T.mg "len" = none) (m_tuple : T.mg "tuple" = none) (gi_MOST_ROOM_texts : GInt T "MOST_ROOM_texts" 9) (gi_MOST_STEPS_texts : GInt T "MOST_STEPS_texts" 8) {f : Addr} {fd : FuncData} (F : Fun T.K "work_of" "work_of" s_work_of f fd) (g : T.mg "work_of" = some (.ref f)) : Lk T 3 "work_of" 1 f_work_of :=
  ⟨f, fd, ["line"], (fnG_of (tr := 0) F c_work_of rfl rfl (d_work_of l_number_of l_step_of m_len m_tuple gi_MOST_ROOM_texts gi_MOST_STEPS_texts)).weak rfl, g, F.kp, F.binds fun _ _ _ _ _ _ us hl => match us, hl with | [_], _ => rfl⟩

/-! read_job -/
abbrev s_read_job : Stmt := top 26
def m_read_job : Env' → Res :=
  (sseq (asg 1 [] (lstD (splitM (var 0) (cst (.str "\n")))))
    (sseq (asgF 2 [] (lstF anil))
    (sseq (sforR rng1 [] (bName 3) (acons (bi2 dSub (cal dLen (acons (var 1) anil)) (cst (.int 1))) anil)
      (sseq (asg 4 [] (cal f_work_of (acons (bi2 dIx (var 1) (var 3)) anil)))
      (sseq (sif [] (asB (bi2 dIs (var 4) (cst .none)))
        (rai "NoText" "line" (var 3))
        snext)
      (app 2 [] (var 4)))))
    (sseq (sif [2] (tor (asB (bi2 dNe (bi2 dIx (var 1) (una dNeg (cst (.int 1)))) (cst (.str "")))) (asB (bi2 dEq (var 2) (lstD (lstF anil)))))
      (rai "NoText" "line" (bi2 dSub (cal dLen (acons (var 1) anil)) (cst (.int 1))))
      snext)
    (sseq (sif [2] (tnot (asB (cal f_is_job (acons (cal dTuple (acons (var 2) anil)) anil))))
      (fun _ => .xc ⟨"NoJob", []⟩)
      snext)
    (ret [2] (cal dTuple (acons (var 2) anil))))))))
def f_read_job (ds : List D) : Rv D := (m_read_job (entry 4 ds)).fin
theorem c_read_job : FnScope ["text", "lines", "found", "k", "work"] ["text"] (defScope s_read_job) := ⟨rfl, rfl, rfl, by decide +kernel, rfl, by decide +kernel, by decide +kernel⟩
theorem d_read_job {T : Wd} (l_work_of : Lk T 3 "work_of" 1 f_work_of) (l_is_job : Lk T 4 "is_job" 1 f_is_job) (m_len : T.mg "len" = none) (m_range : T.mg "range" = none) (m_tuple : T.mg "tuple" = none) (rz_NoJob : Rais0 T "NoJob") (rz_NoText : RaisI T 1 "NoText" "line") (E : XK) : SemSs ⟨T, 4, ["text", "lines", "found", "k", "work"], defScope s_read_job, wAll E, true, fun _ => true, 0⟩ (defBody s_read_job) m_read_job :=
  (sss_cons (ss_set (i := 1) [] (SemF.e (sf_split (se_var 0) se_str)))
    (sss_cons (ss_setF (i := 2) [] (sf_lst sa_nil))
    (sss_cons (ss_forR1 [] m_range (tg_name 3) (sa_cons (se_sub (se_callB (fun X hX => hX.hK ▸ call_lenA) on_len m_len PySem.boot_len (sa_cons (se_var 1) sa_nil)) se_int) sa_nil)
      (sss_cons (ss_set (i := 4) [] (se_call l_work_of (sa_cons (se_ix (se_var 1) (se_var 3)) sa_nil) (acons_len anil_len)))
      (sss_cons (ss_if [] (st_is (se_var 4) se_non)
        (sss_one (ss_raise1 rz_NoText (se_var 3)))
        sss_nil)
      (sss_one (ss_app (j := 2) [] (se_var 4))))))
    (sss_cons (ss_if [2] (st_w (sw_or (st_ne (se_ix (se_var 1) (se_neg se_int)) se_str) (sw_or1 (st_eq (se_var 2) (SemF.e (sf_lst sa_nil))))))
      (sss_one (ss_raise1 rz_NoText (se_sub (se_callB (fun X hX => hX.hK ▸ call_lenA) on_len m_len PySem.boot_len (sa_cons (se_var 1) sa_nil)) se_int)))
      sss_nil)
    (sss_cons (ss_if [2] (st_not (st_val (se_call l_is_job (sa_cons (se_callTy (fun X hX => hX.hK ▸ call_tuple_of) on_tuple m_tuple (by decide +kernel) (sa_cons (se_var 2) sa_nil)) sa_nil) (acons_len anil_len))))
      (sss_one (ss_raise0 rz_NoJob))
      sss_nil)
    (sss_one (ss_ret [2] (se_callTy (fun X hX => hX.hK ▸ call_tuple_of) on_tuple m_tuple (by decide +kernel) (sa_cons (se_var 2) sa_nil)))))))))
theorem k_read_job {T : Wd} (l_work_of : Lk T 3 "work_of" 1 f_work_of) (l_is_job : Lk T 4 "is_job" 1 f_is_job) (m_len : T.mg "len" = none) (m_range : T.mg "range" = none) (m_tuple : T.mg "tuple" = none) (rz_NoJob : Rais0 T "NoJob") (rz_NoText : RaisI T 1 "NoText" "line") {f : Addr} {fd : FuncData} (F : Fun T.K "read_job" "read_job" s_read_job f fd) (g : T.mg "read_job" = some (.ref f)) : Lk T 5 "read_job" 1 f_read_job :=
  ⟨f, fd, ["text"], (fnG_of (tr := 0) F c_read_job rfl rfl (d_read_job l_work_of l_is_job m_len m_range m_tuple rz_NoJob rz_NoText)).weak rfl, g, F.kp, F.binds fun _ _ _ _ _ _ us hl => match us, hl with | [_], _ => rfl⟩

/-! law_mix -/
abbrev s_law_mix : Stmt := top 28
def m_law_mix : Env' → Res :=
  (sseq (asg 2 [] (bi2 dIx (lstD (lstF (acons (cst (.int 2147483647)) (acons (cst (.int 2147483629)) (acons (cst (.int 2147483587)) (acons (cst (.int 2147483579)) (acons (cst (.int 2147483563)) (acons (cst (.int 2147483549)) (acons (cst (.int 2147483543)) anil))))))))) (bi2 dMod (var 1) (cst (.int 7)))))
    (sseq (asg 3 [] (bi2 dMod (bi2 dMul (bi2 dAdd (bi2 dMod (var 0) (cst (.int 998244353))) (bi2 dMul (cst (.int 104729)) (bi2 dAdd (var 1) (cst (.int 1))))) (bi2 dAdd (bi2 dAdd (bi2 dMul (var 1) (var 1)) (bi2 dMul (cst (.int 7)) (var 1))) (cst (.int 13)))) (var 2)))
    (sseq (asg 3 [] (bi2 dMod (bi2 dPow (var 3) (cst (.int 5))) (cst (.int 1000000007))))
    (sseq (asg 3 [] (bi2 dMod (bi2 dAdd (bi2 dAdd (bi2 dMul (var 3) (cst (.int 48271))) (bi2 dMul (cst (.int 31)) (var 1))) (cst (.int 5))) (var 2)))
    (ret [] (bi2 dDiv (bi2 dMod (bi2 dPow (var 3) (cst (.int 3))) (cst (.int 998244353))) (cst (.int 8))))))))
def f_law_mix (ds : List D) : Rv D := (m_law_mix (entry 2 ds)).fin
theorem c_law_mix : FnScope ["cell", "k", "prime", "one"] ["cell", "k"] (defScope s_law_mix) := ⟨rfl, rfl, rfl, by decide +kernel, rfl, by decide +kernel, by decide +kernel⟩
theorem d_law_mix {T : Wd} (E : XK) : SemSs ⟨T, 0, ["cell", "k", "prime", "one"], defScope s_law_mix, wAll E, true, fun _ => true, 0⟩ (defBody s_law_mix) m_law_mix :=
  (sss_cons (ss_set (i := 2) [] (se_ix (SemF.e (sf_lst (sa_cons se_int (sa_cons se_int (sa_cons se_int (sa_cons se_int (sa_cons se_int (sa_cons se_int (sa_cons se_int sa_nil))))))))) (se_mod (se_var 1) se_int)))
    (sss_cons (ss_set (i := 3) [] (se_mod (se_mul (se_add (se_mod (se_var 0) se_int) (se_mul se_int (se_add (se_var 1) se_int))) (se_add (se_add (se_mul (se_var 1) (se_var 1)) (se_mul se_int (se_var 1))) se_int)) (se_var 2)))
    (sss_cons (ss_set (i := 3) [] (se_mod (se_pow (se_var 3) se_int) se_int))
    (sss_cons (ss_set (i := 3) [] (se_mod (se_add (se_add (se_mul (se_var 3) se_int) (se_mul se_int (se_var 1))) se_int) (se_var 2)))
    (sss_one (ss_ret [] (se_div (se_mod (se_pow (se_var 3) se_int) se_int) se_int)))))))
theorem k_law_mix {T : Wd} {f : Addr} {fd : FuncData} (F : Fun T.K "_law_mix" "_law_mix" s_law_mix f fd) (g : T.mg "_law_mix" = some (.ref f)) : Lk T 1 "_law_mix" 2 f_law_mix :=
  ⟨f, fd, ["cell", "k"], (fnG_of (tr := 0) F c_law_mix rfl rfl (d_law_mix)).weak rfl, g, F.kp, F.binds fun _ _ _ _ _ _ us hl => match us, hl with | [_, _], _ => rfl⟩

/-! law_digits -/
abbrev s_law_digits : Stmt := top 29
def m_law_digits : Env' → Res :=
  (sseq (asgF 2 [] (lstF anil))
    (sseq (asg 3 [] (cal dAbs (acons (var 0) anil)))
    (sseq (asg 4 [] (bi2 dGe (var 3) (bi2 dPow (cst (.int 10)) (cst (.int 18)))))
    (sseq (sforR rng1 [] (bName 5) (acons (var 1) anil)
      (sif [] (tand (asB (var 4)) (asB (bi2 dGt (var 3) (cst (.int 0)))))
        (sseq (app 2 [] (bi2 dMod (var 3) (cst (.int 10007))))
        (asg 3 [] (bi2 dDiv (var 3) (cst (.int 10007)))))
        (app 2 [] (cal f_law_mix (acons (var 0) (acons (var 5) anil))))))
    (ret [2] (var 2))))))
def f_law_digits (ds : List D) : Rv D := (m_law_digits (entry 4 ds)).fin
theorem c_law_digits : FnScope ["cell", "many", "found", "left_over", "wide", "k"] ["cell", "many"] (defScope s_law_digits) := ⟨rfl, rfl, rfl, by decide +kernel, rfl, by decide +kernel, by decide +kernel⟩
theorem d_law_digits {T : Wd} (l_law_mix : Lk T 1 "_law_mix" 2 f_law_mix) (m_abs : T.mg "abs" = none) (m_range : T.mg "range" = none) (E : XK) : SemSs ⟨T, 1, ["cell", "many", "found", "left_over", "wide", "k"], defScope s_law_digits, wAll E, true, fun _ => true, 0⟩ (defBody s_law_digits) m_law_digits :=
  (sss_cons (ss_setF (i := 2) [] (sf_lst sa_nil))
    (sss_cons (ss_set (i := 3) [] (se_callB (fun _ _ => call_abs) on_abs m_abs (by decide +kernel) (sa_cons (se_var 0) sa_nil)))
    (sss_cons (ss_set (i := 4) [] (se_ge (se_var 3) (se_pow se_int se_int)))
    (sss_cons (ss_forR1 [] m_range (tg_name 5) (sa_cons (se_var 1) sa_nil)
      (sss_one (ss_if [] (st_w (sw_and (st_val (se_var 4)) (sw_and1 (st_gt (se_var 3) se_int))))
        (sss_cons (ss_app (j := 2) [] (se_mod (se_var 3) se_int))
        (sss_one (ss_set (i := 3) [] (se_div (se_var 3) se_int))))
        (sss_one (ss_app (j := 2) [] (se_call l_law_mix (sa_cons (se_var 0) (sa_cons (se_var 5) sa_nil)) (acons_len (acons_len anil_len))))))))
    (sss_one (ss_ret [2] (se_var 2)))))))
theorem k_law_digits {T : Wd} (l_law_mix : Lk T 1 "_law_mix" 2 f_law_mix) (m_abs : T.mg "abs" = none) (m_range : T.mg "range" = none) {f : Addr} {fd : FuncData} (F : Fun T.K "_law_digits" "_law_digits" s_law_digits f fd) (g : T.mg "_law_digits" = some (.ref f)) : Lk T 2 "_law_digits" 2 f_law_digits :=
  ⟨f, fd, ["cell", "many"], (fnG_of (tr := 0) F c_law_digits rfl rfl (d_law_digits l_law_mix m_abs m_range)).weak rfl, g, F.kp, F.binds fun _ _ _ _ _ _ us hl => match us, hl with | [_, _], _ => rfl⟩

/-! law_at -/
abbrev s_law_at : Stmt := top 30
def m_law_at : Env' → Res :=
  (sseq (sif [] (asB (bi2 dLt (var 1) (cal dLen (acons (var 0) anil))))
      (ret [] (bi2 dIx (var 0) (var 1)))
      snext)
    (ret [] (bi2 dAdd (bi2 dAdd (bi2 dMul (cst (.int 67)) (var 1)) (cst (.int 19))) (cal dLen (acons (var 0) anil)))))
def f_law_at (ds : List D) : Rv D := (m_law_at (entry 0 ds)).fin
theorem c_law_at : FnScope ["script", "k"] ["script", "k"] (defScope s_law_at) := ⟨rfl, rfl, rfl, by decide +kernel, rfl, by decide +kernel, by decide +kernel⟩
theorem d_law_at {T : Wd} (m_len : T.mg "len" = none) (E : XK) : SemSs ⟨T, 0, ["script", "k"], defScope s_law_at, wAll E, true, fun _ => true, 0⟩ (defBody s_law_at) m_law_at :=
  (sss_cons (ss_if [] (st_lt (se_var 1) (se_callB (fun X hX => hX.hK ▸ call_lenA) on_len m_len PySem.boot_len (sa_cons (se_var 0) sa_nil)))
      (sss_one (ss_ret [] (se_ix (se_var 0) (se_var 1))))
      sss_nil)
    (sss_one (ss_ret [] (se_add (se_add (se_mul se_int (se_var 1)) se_int) (se_callB (fun X hX => hX.hK ▸ call_lenA) on_len m_len PySem.boot_len (sa_cons (se_var 0) sa_nil))))))
theorem k_law_at {T : Wd} (m_len : T.mg "len" = none) {f : Addr} {fd : FuncData} (F : Fun T.K "_law_at" "_law_at" s_law_at f fd) (g : T.mg "_law_at" = some (.ref f)) : Lk T 1 "_law_at" 2 f_law_at :=
  ⟨f, fd, ["script", "k"], (fnG_of (tr := 0) F c_law_at rfl rfl (d_law_at m_len)).weak rfl, g, F.kp, F.binds fun _ _ _ _ _ _ us hl => match us, hl with | [_, _], _ => rfl⟩

/-! law_job -/
abbrev s_law_job : Stmt := top 31
def m_law_job : Env' → Res :=
  (sseq (asg 2 [] (cal f_law_digits (acons (cal f_law_at (acons (var 0) (acons (cst (.int 0)) anil))) (acons (cst (.int 10)) anil))))
    (sseq (asg 3 [] (cal dMax (acons (cst (.int 1)) (acons (bi2 dIx (lstD (lstF (acons (bi2 dAdd (cst (.int 1)) (bi2 dMod (bi2 dIx (var 2) (cst (.int 0))) (var 1))) (acons (var 1) (acons (bi2 dSub (var 1) (bi2 dMod (bi2 dIx (var 2) (cst (.int 0))) (cst (.int 2)))) (acons (bi2 dAdd (cst (.int 1)) (bi2 dMod (bi2 dIx (var 2) (cst (.int 0))) (cal dMin (acons (cst (.int 4)) (acons (var 1) anil))))) anil)))))) (bi2 dMod (bi2 dIx (var 2) (cst (.int 1))) (cst (.int 4)))) anil))))
    (sseq (asgX 4 2 [] (lstD (cmp [5] (vName 5) yes (lstD (lstF anil)) (srcR rng1 (acons (var 3) anil)))))
    (sseq (sforR rng2 [] (bName 5) (acons (cst (.int 1)) (acons (var 3) anil))
      (sseq (asg 6 [] (slc (cal f_law_digits (acons (cal f_law_at (acons (var 0) (acons (var 5) anil))) (acons (cst (.int 24)) anil))) (osome (cst (.int 16))) onone))
      (sseq (asgC 7 0 [4] (cmp [8] (vName 8) (asB (bi2 dLt (cal dLen (acons (bi2 dIx (var 4) (var 8)) anil)) (cst (.int 8)))) (var 8) (srcR rng1 (acons (var 5) anil))))
      (sseq (asg 8 [7] (bi2 dIx (var 7) (bi2 dIx (lstD (lstF (acons (bi2 dMod (bi2 dIx (var 6) (cst (.int 0))) (cal dLen (acons (var 7) anil))) (acons (bi2 dSub (cal dLen (acons (var 7) anil)) (cst (.int 1))) (acons (cst (.int 0)) (acons (bi2 dMod (bi2 dIx (var 6) (cst (.int 0))) (cal dLen (acons (var 7) anil))) anil)))))) (bi2 dMod (bi2 dIx (var 6) (cst (.int 1))) (cst (.int 4))))))
      (insP 4 [4] (pai pav (var 8)) (acons (bi2 dMod (bi2 dIx (var 6) (cst (.int 2))) (bi2 dAdd (cal dLen (acons (bi2 dIx (var 4) (var 8)) anil)) (cst (.int 1)))) (acons (var 5) anil)))))))
    (sseq (asgF 9 [] (lstF anil))
    (sseq (sforR rng1 [] (bName 5) (acons (var 3) anil)
      (sseq (asg 6 [] (slc (cal f_law_digits (acons (cal f_law_at (acons (var 0) (acons (var 5) anil))) (acons (cst (.int 48)) anil))) (osome (cst (.int 24))) onone))
      (sseq (asgC 10 0 [4] (cmp [12] (vName 12) yes (tupD (acons (cst (.str "send")) (acons (var 12) anil))) (srcE (bi2 dIx (var 4) (var 5)))))
      (sseq (sforR rng1 [10] (bName 11) (acons (cal dMin (acons (bi2 dSub (cst (.int 8)) (cal dLen (acons (var 10) anil))) (acons (bi2 dIx (lstD (lstF (acons (cst (.int 0)) (acons (cst (.int 1)) (acons (cst (.int 2)) (acons (cst (.int 3)) (acons (bi2 dAdd (cst (.int 4)) (bi2 dMod (bi2 dIx (var 6) (cst (.int 18))) (cst (.int 5)))) anil))))))) (bi2 dMod (bi2 dIx (var 6) (cst (.int 1))) (cst (.int 5)))) anil))) anil)
        (ins 10 [10] (acons (bi2 dMod (bi2 dIx (var 6) (bi2 dAdd (cst (.int 2)) (bi2 dMul (cst (.int 2)) (var 11)))) (bi2 dAdd (cal dLen (acons (var 10) anil)) (cst (.int 1)))) (acons (bi2 dIx (lstD (lstF (acons (tupD (acons (cst (.str "do")) anil)) (acons (tupD (acons (cst (.str "wait")) anil)) (acons (tupD (acons (cst (.str "do")) anil)) anil))))) (bi2 dMod (bi2 dIx (var 6) (bi2 dAdd (cst (.int 3)) (bi2 dMul (cst (.int 2)) (var 11)))) (cst (.int 3)))) anil))))
      (sseq (sif [10] (asB (bi2 dEq (var 10) (lstD (lstF anil))))
        (asgF 10 [] (lstF (acons (tupD (acons (cst (.str "do")) anil)) anil)))
        snext)
      (app 9 [10] (tupD (acons (bi2 dAdd (cst (.int 1)) (bi2 dMod (bi2 dIx (var 6) (cst (.int 0))) (cst (.int 9)))) (acons (cal dTuple (acons (var 10) anil)) anil)))))))))
    (ret [9] (cal dTuple (acons (var 9) anil)))))))))
def f_law_job (ds : List D) : Rv D := (m_law_job (entry 11 ds)).fin
theorem c_law_job : FnScope ["script", "most", "some", "many", "kids", "k", "one", "free", "p", "works", "steps", "j", "kid"] ["script", "most"] (defScope s_law_job) := ⟨rfl, rfl, rfl, by decide +kernel, rfl, by decide +kernel, by decide +kernel⟩
theorem d_law_job {T : Wd} (l_law_digits : Lk T 2 "_law_digits" 2 f_law_digits) (l_law_at : Lk T 1 "_law_at" 2 f_law_at) (m_min : T.mg "min" = none) (m_max : T.mg "max" = none) (m_range : T.mg "range" = none) (m_len : T.mg "len" = none) (m_tuple : T.mg "tuple" = none) (E : XK) : SemSs ⟨T, 2, ["script", "most", "some", "many", "kids", "k", "one", "free", "p", "works", "steps", "j", "kid"], defScope s_law_job, wAll E, true, fun _ => true, 0⟩ (defBody s_law_job) m_law_job :=
  (sss_cons (ss_set (i := 2) [] (se_call l_law_digits (sa_cons (se_call l_law_at (sa_cons (se_var 0) (sa_cons se_int sa_nil)) (acons_len (acons_len anil_len))) (sa_cons se_int sa_nil)) (acons_len (acons_len anil_len))))
    (sss_cons (ss_set (i := 3) [] (se_max m_max (sa_cons se_int (sa_cons (se_ix (SemF.e (sf_lst (sa_cons (se_add se_int (se_mod (se_ix (se_var 2) se_int) (se_var 1))) (sa_cons (se_var 1) (sa_cons (se_sub (se_var 1) (se_mod (se_ix (se_var 2) se_int) se_int)) (sa_cons (se_add se_int (se_mod (se_ix (se_var 2) se_int) (se_min m_min (sa_cons se_int (sa_cons (se_var 1) sa_nil))))) sa_nil)))))) (se_mod (se_ix (se_var 2) se_int) se_int)) sa_nil))))
    (sss_cons (ss_setXc (i := 4) (n := 2) [] (SemC.x (sc_range1 [("k", 5)] [5] m_range (sa_cons (se_var 3) sa_nil) (by show blkC ["script", "most", "some", "many", "kids", "k", "one", "free", "p", "works", "steps", "j", "kid"] (defScope s_law_job) _ _ = true; decide +kernel) (tv_name 5) sp_nil (sx_lst sxa_nil))))
    (sss_cons (ss_forR2 [] m_range (tg_name 5) (sa_cons se_int (sa_cons (se_var 3) sa_nil))
      (sss_cons (ss_set (i := 6) [] (se_slice (se_call l_law_digits (sa_cons (se_call l_law_at (sa_cons (se_var 0) (sa_cons (se_var 5) sa_nil)) (acons_len (acons_len anil_len))) (sa_cons se_int sa_nil)) (acons_len (acons_len anil_len))) (so_some se_int) so_none))
      (sss_cons (ss_setC (i := 7) (n := 0) [4] (sc_range1 [("p", 8)] [8] m_range (sa_cons (se_var 5) sa_nil) (by show blkC ["script", "most", "some", "many", "kids", "k", "one", "free", "p", "works", "steps", "j", "kid"] (defScope s_law_job) _ _ = true; decide +kernel) (tv_name 8) (sp_one (st_lt (se_callB (fun X hX => hX.hK ▸ call_lenA) on_len m_len PySem.boot_len (sa_cons (se_ix (se_var 4) (se_var 8)) sa_nil)) se_int)) (sx_e (se_var 8))))
      (sss_cons (ss_set (i := 8) [7] (se_ix (se_var 7) (se_ix (SemF.e (sf_lst (sa_cons (se_mod (se_ix (se_var 6) se_int) (se_callB (fun X hX => hX.hK ▸ call_lenA) on_len m_len PySem.boot_len (sa_cons (se_var 7) sa_nil))) (sa_cons (se_sub (se_callB (fun X hX => hX.hK ▸ call_lenA) on_len m_len PySem.boot_len (sa_cons (se_var 7) sa_nil)) se_int) (sa_cons se_int (sa_cons (se_mod (se_ix (se_var 6) se_int) (se_callB (fun X hX => hX.hK ▸ call_lenA) on_len m_len PySem.boot_len (sa_cons (se_var 7) sa_nil))) sa_nil)))))) (se_mod (se_ix (se_var 6) se_int) se_int))))
      (sss_one (ss_insP (j := 4) [4] (spa_ix (spa_var 4) (se_var 8)) (sa_cons (se_mod (se_ix (se_var 6) se_int) (se_add (se_callB (fun X hX => hX.hK ▸ call_lenA) on_len m_len PySem.boot_len (sa_cons (se_ix (se_var 4) (se_var 8)) sa_nil)) se_int)) (sa_cons (se_var 5) sa_nil))))))))
    (sss_cons (ss_setF (i := 9) [] (sf_lst sa_nil))
    (sss_cons (ss_forR1 [] m_range (tg_name 5) (sa_cons (se_var 3) sa_nil)
      (sss_cons (ss_set (i := 6) [] (se_slice (se_call l_law_digits (sa_cons (se_call l_law_at (sa_cons (se_var 0) (sa_cons (se_var 5) sa_nil)) (acons_len (acons_len anil_len))) (sa_cons se_int sa_nil)) (acons_len (acons_len anil_len))) (so_some se_int) so_none))
      (sss_cons (ss_setC (i := 10) (n := 0) [4] (sc_list [("kid", 12)] [12] (se_ix (se_var 4) (se_var 5)) (by show blkC ["script", "most", "some", "many", "kids", "k", "one", "free", "p", "works", "steps", "j", "kid"] (defScope s_law_job) _ _ = true; decide +kernel) (tv_name 12) sp_nil (sx_e (se_tup (sa_cons se_str (sa_cons (se_var 12) sa_nil))))))
      (sss_cons (ss_forR1 [10] m_range (tg_name 11) (sa_cons (se_min m_min (sa_cons (se_sub se_int (se_callB (fun X hX => hX.hK ▸ call_lenA) on_len m_len PySem.boot_len (sa_cons (se_var 10) sa_nil))) (sa_cons (se_ix (SemF.e (sf_lst (sa_cons se_int (sa_cons se_int (sa_cons se_int (sa_cons se_int (sa_cons (se_add se_int (se_mod (se_ix (se_var 6) se_int) se_int)) sa_nil))))))) (se_mod (se_ix (se_var 6) se_int) se_int)) sa_nil))) sa_nil)
        (sss_one (ss_ins (j := 10) [10] (sa_cons (se_mod (se_ix (se_var 6) (se_add se_int (se_mul se_int (se_var 11)))) (se_add (se_callB (fun X hX => hX.hK ▸ call_lenA) on_len m_len PySem.boot_len (sa_cons (se_var 10) sa_nil)) se_int)) (sa_cons (se_ix (SemF.e (sf_lst (sa_cons (se_tup (sa_cons se_str sa_nil)) (sa_cons (se_tup (sa_cons se_str sa_nil)) (sa_cons (se_tup (sa_cons se_str sa_nil)) sa_nil))))) (se_mod (se_ix (se_var 6) (se_add se_int (se_mul se_int (se_var 11)))) se_int)) sa_nil)))))
      (sss_cons (ss_if [10] (st_eq (se_var 10) (SemF.e (sf_lst sa_nil)))
        (sss_one (ss_setF (i := 10) [] (sf_lst (sa_cons (se_tup (sa_cons se_str sa_nil)) sa_nil))))
        sss_nil)
      (sss_one (ss_app (j := 9) [10] (se_tup (sa_cons (se_add se_int (se_mod (se_ix (se_var 6) se_int) se_int)) (sa_cons (se_callTy (fun X hX => hX.hK ▸ call_tuple_of) on_tuple m_tuple (by decide +kernel) (sa_cons (se_var 10) sa_nil)) sa_nil))))))))))
    (sss_one (ss_ret [9] (se_callTy (fun X hX => hX.hK ▸ call_tuple_of) on_tuple m_tuple (by decide +kernel) (sa_cons (se_var 9) sa_nil))))))))))
theorem k_law_job {T : Wd} (l_law_digits : Lk T 2 "_law_digits" 2 f_law_digits) (l_law_at : Lk T 1 "_law_at" 2 f_law_at) (m_min : T.mg "min" = none) (m_max : T.mg "max" = none) (m_range : T.mg "range" = none) (m_len : T.mg "len" = none) (m_tuple : T.mg "tuple" = none) {f : Addr} {fd : FuncData} (F : Fun T.K "_law_job" "_law_job" s_law_job f fd) (g : T.mg "_law_job" = some (.ref f)) : Lk T 3 "_law_job" 2 f_law_job :=
  ⟨f, fd, ["script", "most"], (fnG_of (tr := 0) F c_law_job rfl rfl (d_law_job l_law_digits l_law_at m_min m_max m_range m_len m_tuple)).weak rfl, g, F.kp, F.binds fun _ _ _ _ _ _ us hl => match us, hl with | [_, _], _ => rfl⟩

/-! law_text -/
abbrev s_law_text : Stmt := top 32
def m_law_text : Env' → Res :=
  (sseq (asg 1 [] (cst (.str "")))
    (sseq (sfor [] (bTup [2, 3]) (var 0)
      (sseq (asg 1 [] (bi2 dAdd (bi2 dAdd (var 1) (cal dStr (acons (var 2) anil))) (cst (.str ":"))))
      (sseq (sfor [] (bName 4) (var 3)
        (asg 1 [] (bi2 dAdd (bi2 dAdd (var 1) (cst (.str " "))) (joinM (cst (.str "-")) (lstD (cmp [5] (vName 5) yes (cal dStr (acons (var 5) anil)) (srcE (var 4))))))))
      (asg 1 [] (bi2 dAdd (var 1) (cst (.str "\n")))))))
    (ret [] (var 1))))
def f_law_text (ds : List D) : Rv D := (m_law_text (entry 5 ds)).fin
theorem c_law_text : FnScope ["job", "found", "room", "steps", "step", "one"] ["job"] (defScope s_law_text) := ⟨rfl, rfl, rfl, by decide +kernel, rfl, by decide +kernel, by decide +kernel⟩
theorem d_law_text {T : Wd} (m_str : T.mg "str" = none) (E : XK) : SemSs ⟨T, 0, ["job", "found", "room", "steps", "step", "one"], defScope s_law_text, wAll E, true, fun _ => true, 0⟩ (defBody s_law_text) m_law_text :=
  (sss_cons (ss_set (i := 1) [] se_str)
    (sss_cons (ss_for [] (tg_tup (sg_cons 2 (sg_cons 3 sg_nil))) (se_var 0)
      (sss_cons (ss_set (i := 1) [] (se_add (se_add (se_var 1) (se_callTy (fun _ _ => call_strA) on_str m_str (by decide +kernel) (sa_cons (se_var 2) sa_nil))) se_str))
      (sss_cons (ss_for [] (tg_name 4) (se_var 3)
        (sss_one (ss_set (i := 1) [] (se_add (se_add (se_var 1) se_str) (se_join se_str (SemF.e (SemC.f (sc_list [("one", 5)] [5] (se_var 4) (by show blkC ["job", "found", "room", "steps", "step", "one"] (defScope s_law_text) _ _ = true; decide +kernel) (tv_name 5) sp_nil (sx_e (se_callTy (fun _ _ => call_strA) on_str m_str (by decide +kernel) (sa_cons (se_var 5) sa_nil)))))))))))
      (sss_one (ss_set (i := 1) [] (se_add (se_var 1) se_str))))))
    (sss_one (ss_ret [] (se_var 1)))))
theorem k_law_text {T : Wd} (m_str : T.mg "str" = none) {f : Addr} {fd : FuncData} (F : Fun T.K "_law_text" "_law_text" s_law_text f fd) (g : T.mg "_law_text" = some (.ref f)) : Lk T 1 "_law_text" 1 f_law_text :=
  ⟨f, fd, ["job"], (fnG_of (tr := 0) F c_law_text rfl rfl (d_law_text m_str)).weak rfl, g, F.kp, F.binds fun _ _ _ _ _ _ us hl => match us, hl with | [_], _ => rfl⟩

/-! law_number -/
abbrev s_law_number : Stmt := top 33
def m_law_number : Env' → Res :=
  (sseq (sif [] (tor (asB (bi2 dNotInQ (cal dLen (acons (var 0) anil)) (tupD (acons (cst (.int 1)) (acons (cst (.int 2)) anil))))) (asB (bi2 dNe (lstD (cmp [1] (vName 1) (asB (bi2 dNotInQ (var 1) (cst (.str "0123456789")))) (var 1) (srcS (var 0)))) (lstD (lstF anil)))))
      (ret [] (cst .none))
      snext)
    (sseq (sif [] (tand (asB (bi2 dEq (cal dLen (acons (var 0) anil)) (cst (.int 2)))) (asB (bi2 dEq (bi2 dIx (var 0) (cst (.int 0))) (cst (.str "0")))))
      (ret [] (cst .none))
      snext)
    (ret [] (cal dIntS (acons (var 0) anil)))))
def f_law_number (ds : List D) : Rv D := (m_law_number (entry 1 ds)).fin
theorem c_law_number : FnScope ["word", "sign"] ["word"] (defScope s_law_number) := ⟨rfl, rfl, rfl, by decide +kernel, rfl, by decide +kernel, by decide +kernel⟩
theorem d_law_number {T : Wd} (m_len : T.mg "len" = none) (m_int : T.mg "int" = none) (E : XK) : SemSs ⟨T, 0, ["word", "sign"], defScope s_law_number, wAll E, true, fun _ => true, 0⟩ (defBody s_law_number) m_law_number :=
  (sss_cons (ss_if [] (st_w (sw_or (st_notinQ (se_callB (fun X hX => hX.hK ▸ call_lenA) on_len m_len PySem.boot_len (sa_cons (se_var 0) sa_nil)) (se_tup (sa_cons se_int (sa_cons se_int sa_nil)))) (sw_or1 (st_ne (SemF.e (SemC.f (sc_str [("sign", 1)] [1] (se_var 0) (by show blkC ["word", "sign"] (defScope s_law_number) _ _ = true; decide +kernel) (tv_name 1) (sp_one (st_notinQ (se_var 1) se_str)) (sx_e (se_var 1))))) (SemF.e (sf_lst sa_nil))))))
      (sss_one (ss_ret [] se_non))
      sss_nil)
    (sss_cons (ss_if [] (st_w (sw_and (st_eq (se_callB (fun X hX => hX.hK ▸ call_lenA) on_len m_len PySem.boot_len (sa_cons (se_var 0) sa_nil)) se_int) (sw_and1 (st_eq (se_ix (se_var 0) se_int) se_str))))
      (sss_one (ss_ret [] se_non))
      sss_nil)
    (sss_one (ss_ret [] (se_callTy (fun _ _ => call_intA) on_intS m_int (by decide +kernel) (sa_cons (se_var 0) sa_nil))))))
theorem k_law_number {T : Wd} (m_len : T.mg "len" = none) (m_int : T.mg "int" = none) {f : Addr} {fd : FuncData} (F : Fun T.K "_law_number" "_law_number" s_law_number f fd) (g : T.mg "_law_number" = some (.ref f)) : Lk T 1 "_law_number" 1 f_law_number :=
  ⟨f, fd, ["word"], (fnG_of (tr := 0) F c_law_number rfl rfl (d_law_number m_len m_int)).weak rfl, g, F.kp, F.binds fun _ _ _ _ _ _ us hl => match us, hl with | [_], _ => rfl⟩

/-! law_work -/
abbrev s_law_work : Stmt := top 34
def m_law_work : Env' → Res :=
  (sseq (asg 1 [] (lstD (splitM (var 0) (cst (.str " ")))))
    (sseq (asg 2 [] (cal f_law_number (acons (slcS (bi2 dIx (var 1) (cst (.int 0))) onone (osome (una dNeg (cst (.int 1))))) anil)))
    (sseq (sif [] (tor (asB (bi2 dNe (slcS (bi2 dIx (var 1) (cst (.int 0))) (osome (una dNeg (cst (.int 1)))) onone) (cst (.str ":")))) (tor (asB (bi2 dIs (var 2) (cst .none))) (tor (tnot (asB (chn dLe dLe (cst (.int 1)) (var 2) (cst (.int 9))))) (tnot (asB (chn dLe dLe (cst (.int 2)) (cal dLen (acons (var 1) anil)) (cst (.int 9))))))))
      (ret [] (cst .none))
      snext)
    (sseq (asgF 3 [] (lstF anil))
    (sseq (sfor [] (bName 4) (slc (var 1) (osome (cst (.int 1))) onone)
      (sseq (asg 5 [] (lstD (splitM (var 4) (cst (.str "-")))))
      (sif [] (tor (asB (bi2 dEq (var 4) (cst (.str "do")))) (asB (bi2 dEq (var 4) (cst (.str "wait")))))
        (app 3 [] (tupD (acons (var 4) anil)))
        (sif [] (tand (asB (bi2 dEq (bi2 dIx (var 5) (cst (.int 0))) (cst (.str "send")))) (tand (asB (bi2 dEq (cal dLen (acons (var 5) anil)) (cst (.int 2)))) (asB (bi2 dIsNot (cal f_law_number (acons (bi2 dIx (var 5) (cst (.int 1))) anil)) (cst .none)))))
          (app 3 [] (tupD (acons (cst (.str "send")) (acons (cal f_law_number (acons (bi2 dIx (var 5) (cst (.int 1))) anil)) anil))))
          (ret [] (cst .none))))))
    (ret [3] (tupD (acons (var 2) (acons (cal dTuple (acons (var 3) anil)) anil)))))))))
def f_law_work (ds : List D) : Rv D := (m_law_work (entry 5 ds)).fin
theorem c_law_work : FnScope ["line", "words", "room", "steps", "word", "some"] ["line"] (defScope s_law_work) := ⟨rfl, rfl, rfl, by decide +kernel, rfl, by decide +kernel, by decide +kernel⟩
theorem d_law_work {T : Wd} (l_law_number : Lk T 1 "_law_number" 1 f_law_number) (m_len : T.mg "len" = none) (m_tuple : T.mg "tuple" = none) (E : XK) : SemSs ⟨T, 1, ["line", "words", "room", "steps", "word", "some"], defScope s_law_work, wAll E, true, fun _ => true, 0⟩ (defBody s_law_work) m_law_work :=
  (sss_cons (ss_set (i := 1) [] (SemF.e (sf_split (se_var 0) se_str)))
    (sss_cons (ss_set (i := 2) [] (se_call l_law_number (sa_cons (se_sliceS (se_ix (se_var 1) se_int) so_none (so_some (se_neg se_int))) sa_nil) (acons_len anil_len)))
    (sss_cons (ss_if [] (st_w (sw_or (st_ne (se_sliceS (se_ix (se_var 1) se_int) (so_some (se_neg se_int)) so_none) se_str) (sw_or (st_is (se_var 2) se_non) (sw_or (st_not (st_chain (fun _ _ => op_le) (fun _ _ => op_le) o2_rel o2_rel se_int (se_var 2) se_int)) (sw_or1 (st_not (st_chain (fun _ _ => op_le) (fun _ _ => op_le) o2_rel o2_rel se_int (se_callB (fun X hX => hX.hK ▸ call_lenA) on_len m_len PySem.boot_len (sa_cons (se_var 1) sa_nil)) se_int)))))))
      (sss_one (ss_ret [] se_non))
      sss_nil)
    (sss_cons (ss_setF (i := 3) [] (sf_lst sa_nil))
    (sss_cons (ss_for [] (tg_name 4) (se_slice (se_var 1) (so_some se_int) so_none)
      (sss_cons (ss_set (i := 5) [] (SemF.e (sf_split (se_var 4) se_str)))
      (sss_one (ss_if [] (st_w (sw_or (st_eq (se_var 4) se_str) (sw_or1 (st_eq (se_var 4) se_str))))
        (sss_one (ss_app (j := 3) [] (se_tup (sa_cons (se_var 4) sa_nil))))
        (sss_one (ss_if [] (st_w (sw_and (st_eq (se_ix (se_var 5) se_int) se_str) (sw_and (st_eq (se_callB (fun X hX => hX.hK ▸ call_lenA) on_len m_len PySem.boot_len (sa_cons (se_var 5) sa_nil)) se_int) (sw_and1 (st_isnot (se_call l_law_number (sa_cons (se_ix (se_var 5) se_int) sa_nil) (acons_len anil_len)) se_non)))))
          (sss_one (ss_app (j := 3) [] (se_tup (sa_cons se_str (sa_cons (se_call l_law_number (sa_cons (se_ix (se_var 5) se_int) sa_nil) (acons_len anil_len)) sa_nil)))))
          (sss_one (ss_ret [] se_non))))))))
    (sss_one (ss_ret [3] (se_tup (sa_cons (se_var 2) (sa_cons (se_callTy (fun X hX => hX.hK ▸ call_tuple_of) on_tuple m_tuple (by decide +kernel) (sa_cons (se_var 3) sa_nil)) sa_nil))))))))))
theorem k_law_work {T : Wd} (l_law_number : Lk T 1 "_law_number" 1 f_law_number) (m_len : T.mg "len" = none) (m_tuple : T.mg "tuple" = none) {f : Addr} {fd : FuncData} (F : Fun T.K "_law_work" "_law_work" s_law_work f fd) (g : T.mg "_law_work" = some (.ref f)) : Lk T 2 "_law_work" 1 f_law_work :=
  ⟨f, fd, ["line"], (fnG_of (tr := 0) F c_law_work rfl rfl (d_law_work l_law_number m_len m_tuple)).weak rfl, g, F.kp, F.binds fun _ _ _ _ _ _ us hl => match us, hl with | [_], _ => rfl⟩

/-! law_read -/
abbrev s_law_read : Stmt := top 35
def m_law_read : Env' → Res :=
  (sseq (asg 1 [] (lstD (splitM (var 0) (cst (.str "\n")))))
    (sseq (asgF 2 [] (lstF anil))
    (sseq (sforE [] [3, 4] (acons (slc (var 1) onone (osome (una dNeg (cst (.int 1))))) anil)
      (sseq (asg 5 [] (cal f_law_work (acons (var 4) anil)))
      (sseq (sif [] (asB (bi2 dIs (var 5) (cst .none)))
        (ret [] (tupD (acons (var 3) (acons (cst .none) anil))))
        snext)
      (app 2 [] (var 5)))))
    (sseq (sif [2] (tor (asB (bi2 dNe (bi2 dIx (var 1) (una dNeg (cst (.int 1)))) (cst (.str "")))) (asB (bi2 dEq (var 2) (lstD (lstF anil)))))
      (ret [] (tupD (acons (bi2 dSub (cal dLen (acons (var 1) anil)) (cst (.int 1))) (acons (cst .none) anil))))
      snext)
    (ret [2] (tupD (acons (una dNeg (cst (.int 1))) (acons (cal dTuple (acons (var 2) anil)) anil))))))))
def f_law_read (ds : List D) : Rv D := (m_law_read (entry 5 ds)).fin
theorem c_law_read : FnScope ["text", "lines", "found", "k", "line", "work"] ["text"] (defScope s_law_read) := ⟨rfl, rfl, rfl, by decide +kernel, rfl, by decide +kernel, by decide +kernel⟩
theorem d_law_read {T : Wd} (l_law_work : Lk T 2 "_law_work" 1 f_law_work) (m_enumerate : T.mg "enumerate" = none) (m_len : T.mg "len" = none) (m_tuple : T.mg "tuple" = none) (E : XK) : SemSs ⟨T, 2, ["text", "lines", "found", "k", "line", "work"], defScope s_law_read, wAll E, true, fun _ => true, 0⟩ (defBody s_law_read) m_law_read :=
  (sss_cons (ss_set (i := 1) [] (SemF.e (sf_split (se_var 0) se_str)))
    (sss_cons (ss_setF (i := 2) [] (sf_lst sa_nil))
    (sss_cons (ss_forE [] m_enumerate (sg_cons 3 (sg_cons 4 sg_nil)) (sa_cons (se_slice (se_var 1) so_none (so_some (se_neg se_int))) sa_nil)
      (sss_cons (ss_set (i := 5) [] (se_call l_law_work (sa_cons (se_var 4) sa_nil) (acons_len anil_len)))
      (sss_cons (ss_if [] (st_is (se_var 5) se_non)
        (sss_one (ss_ret [] (se_tup (sa_cons (se_var 3) (sa_cons se_non sa_nil)))))
        sss_nil)
      (sss_one (ss_app (j := 2) [] (se_var 5))))))
    (sss_cons (ss_if [2] (st_w (sw_or (st_ne (se_ix (se_var 1) (se_neg se_int)) se_str) (sw_or1 (st_eq (se_var 2) (SemF.e (sf_lst sa_nil))))))
      (sss_one (ss_ret [] (se_tup (sa_cons (se_sub (se_callB (fun X hX => hX.hK ▸ call_lenA) on_len m_len PySem.boot_len (sa_cons (se_var 1) sa_nil)) se_int) (sa_cons se_non sa_nil)))))
      sss_nil)
    (sss_one (ss_ret [2] (se_tup (sa_cons (se_neg se_int) (sa_cons (se_callTy (fun X hX => hX.hK ▸ call_tuple_of) on_tuple m_tuple (by decide +kernel) (sa_cons (se_var 2) sa_nil)) sa_nil)))))))))
theorem k_law_read {T : Wd} (l_law_work : Lk T 2 "_law_work" 1 f_law_work) (m_enumerate : T.mg "enumerate" = none) (m_len : T.mg "len" = none) (m_tuple : T.mg "tuple" = none) {f : Addr} {fd : FuncData} (F : Fun T.K "_law_read" "_law_read" s_law_read f fd) (g : T.mg "_law_read" = some (.ref f)) : Lk T 3 "_law_read" 1 f_law_read :=
  ⟨f, fd, ["text"], (fnG_of (tr := 0) F c_law_read rfl rfl (d_law_read l_law_work m_enumerate m_len m_tuple)).weak rfl, g, F.kp, F.binds fun _ _ _ _ _ _ us hl => match us, hl with | [_], _ => rfl⟩

/-! law_told -/
abbrev s_law_told : Stmt := top 36
def m_law_told : Env' → Res :=
  (sseq (asg 1 [] (cst .none))
    (sseq (asg 2 [] (cst .none))
    (sseq (stry 5 3 1 (fun c => List.lookup c [("NoText", true), ("NoJob", true)]) (asg 2 [] (cal f_read_job (acons (var 0) anil))))
    (sseq (sif [] (asB (bi2 dIs (var 1) (cst .none)))
      (ret [] (tupD (acons (una dNeg (cst (.int 1))) (acons (var 2) anil))))
      snext)
    (sseq (asgF 4 [] (lstF (acons (isx [("NoText", true), ("NoJob", false)] (var 1)) (acons (isx [("NoText", false), ("NoJob", true)] (var 1)) (acons (isx [("NoText", true), ("NoJob", true)] (var 1)) anil)))))
    (sseq (app 4 [] (isx [("NoText", false), ("NoJob", false)] (var 1)))
    (sseq (sif [4] (asB (bi2 dEq (var 4) (lstD (lstF (acons (cst (.bool true)) (acons (cst (.bool false)) (acons (cst (.bool true)) (acons (cst (.bool false)) anil))))))))
      (ret [] (tupD (acons (xfl "NoText" "line" (var 1)) (acons (cst .none) anil))))
      snext)
    (ret [4] (tupD (acons (var 4) (acons (cst .none) anil)))))))))))
def f_law_told (ds : List D) : Rv D := (m_law_told (entry 4 ds)).fin
theorem c_law_told : FnScope ["text", "caught", "found", "e", "kinds"] ["text"] (defScope s_law_told) := ⟨rfl, rfl, rfl, by decide +kernel, rfl, by decide +kernel, by decide +kernel⟩
theorem d_law_told {T : Wd} (l_read_job : Lk T 5 "read_job" 1 f_read_job) (m_isinstance : T.mg "isinstance" = none) {C_FarError : Addr} (tx_FarError : T.mg "FarError" = some (.ref C_FarError)) (ok_FarError : ∀ (cls : Str) (b : Bool) (C : Addr), List.lookup cls [("NoText", true), ("NoJob", true)] = some b → T.mg cls = some (.ref C) → PySem.W.exmOne T.K (.ref C) (.ref C_FarError) = some b) {c_NoBack : V} {v_NoBack : Value} (cn_NoBack : ClsN T "NoBack" c_NoBack v_NoBack) {c_NoJob : V} {v_NoJob : Value} (cn_NoJob : ClsN T "NoJob" c_NoJob v_NoJob) {c_NoLine : V} {v_NoLine : Value} (cn_NoLine : ClsN T "NoLine" c_NoLine v_NoLine) {c_NoOrder : V} {v_NoOrder : Value} (cn_NoOrder : ClsN T "NoOrder" c_NoOrder v_NoOrder) {c_NoSize : V} {v_NoSize : Value} (cn_NoSize : ClsN T "NoSize" c_NoSize v_NoSize) {c_NoText : V} {v_NoText : Value} (cn_NoText : ClsN T "NoText" c_NoText v_NoText) {c_NoTurn : V} {v_NoTurn : Value} (cn_NoTurn : ClsN T "NoTurn" c_NoTurn v_NoTurn) {c_NoYard : V} {v_NoYard : Value} (cn_NoYard : ClsN T "NoYard" c_NoYard v_NoYard) {c_ValueError : V} {v_ValueError : Value} (cn_ValueError : ClsN T "ValueError" c_ValueError v_ValueError) (xk_NoJob : ∀ C, T.mg "NoJob" = some (.ref C) → ExcK T.K C) (xk_NoText : ∀ C, T.mg "NoText" = some (.ref C) → ExcK T.K C) (nf_NoText_line : ∀ C, T.mg "NoText" = some (.ref C) → PySem.W.findIn T.K (.ref C) "line" = some none) (it_NoJob_NoBack : ∀ C, T.mg "NoJob" = some (.ref C) → PySem.W.kitOne T.K (.ref C) v_NoBack = some false) (it_NoJob_NoJob : ∀ C, T.mg "NoJob" = some (.ref C) → PySem.W.kitOne T.K (.ref C) v_NoJob = some true) (it_NoJob_NoLine : ∀ C, T.mg "NoJob" = some (.ref C) → PySem.W.kitOne T.K (.ref C) v_NoLine = some false) (it_NoJob_NoOrder : ∀ C, T.mg "NoJob" = some (.ref C) → PySem.W.kitOne T.K (.ref C) v_NoOrder = some false) (it_NoJob_NoSize : ∀ C, T.mg "NoJob" = some (.ref C) → PySem.W.kitOne T.K (.ref C) v_NoSize = some false) (it_NoJob_NoText : ∀ C, T.mg "NoJob" = some (.ref C) → PySem.W.kitOne T.K (.ref C) v_NoText = some false) (it_NoJob_NoTurn : ∀ C, T.mg "NoJob" = some (.ref C) → PySem.W.kitOne T.K (.ref C) v_NoTurn = some false) (it_NoJob_NoYard : ∀ C, T.mg "NoJob" = some (.ref C) → PySem.W.kitOne T.K (.ref C) v_NoYard = some false) (it_NoJob_ValueError : ∀ C, T.mg "NoJob" = some (.ref C) → PySem.W.kitOne T.K (.ref C) v_ValueError = some true) (it_NoText_NoBack : ∀ C, T.mg "NoText" = some (.ref C) → PySem.W.kitOne T.K (.ref C) v_NoBack = some false) (it_NoText_NoJob : ∀ C, T.mg "NoText" = some (.ref C) → PySem.W.kitOne T.K (.ref C) v_NoJob = some false) (it_NoText_NoLine : ∀ C, T.mg "NoText" = some (.ref C) → PySem.W.kitOne T.K (.ref C) v_NoLine = some false) (it_NoText_NoOrder : ∀ C, T.mg "NoText" = some (.ref C) → PySem.W.kitOne T.K (.ref C) v_NoOrder = some false) (it_NoText_NoSize : ∀ C, T.mg "NoText" = some (.ref C) → PySem.W.kitOne T.K (.ref C) v_NoSize = some false) (it_NoText_NoText : ∀ C, T.mg "NoText" = some (.ref C) → PySem.W.kitOne T.K (.ref C) v_NoText = some true) (it_NoText_NoTurn : ∀ C, T.mg "NoText" = some (.ref C) → PySem.W.kitOne T.K (.ref C) v_NoTurn = some false) (it_NoText_NoYard : ∀ C, T.mg "NoText" = some (.ref C) → PySem.W.kitOne T.K (.ref C) v_NoYard = some false) (it_NoText_ValueError : ∀ C, T.mg "NoText" = some (.ref C) → PySem.W.kitOne T.K (.ref C) v_ValueError = some true) (E : XK) : SemSs ⟨T, 5, ["text", "caught", "found", "e", "kinds"], defScope s_law_told, wAll E, true, fun _ => true, 0⟩ (defBody s_law_told) m_law_told :=
  (sss_cons (ss_set (i := 1) [] se_non)
    (sss_cons (ss_set (i := 2) [] se_non)
    (sss_cons (ss_try (i := 3) (j := 1) (ok := fun c => List.lookup c [("NoText", true), ("NoJob", true)]) (fun _ => (sss_one (ss_set (i := 2) [] (se_call l_read_job (sa_cons (se_var 0) sa_nil) (acons_len anil_len))))) tx_FarError ok_FarError)
    (sss_cons (ss_if [] (st_is (se_var 1) se_non)
      (sss_one (ss_ret [] (se_tup (sa_cons (se_neg se_int) (sa_cons (se_var 2) sa_nil)))))
      sss_nil)
    (sss_cons (ss_setF (i := 4) [] (sf_lst (sa_cons (se_isX m_isinstance cn_NoText (tb_cons (fun C h => ⟨xk_NoText C h, it_NoText_NoText C h⟩) (tb_cons (fun C h => ⟨xk_NoJob C h, it_NoJob_NoText C h⟩) tb_nil)) (se_var 1)) (sa_cons (se_isX m_isinstance cn_NoJob (tb_cons (fun C h => ⟨xk_NoText C h, it_NoText_NoJob C h⟩) (tb_cons (fun C h => ⟨xk_NoJob C h, it_NoJob_NoJob C h⟩) tb_nil)) (se_var 1)) (sa_cons (se_isX m_isinstance cn_ValueError (tb_cons (fun C h => ⟨xk_NoText C h, it_NoText_ValueError C h⟩) (tb_cons (fun C h => ⟨xk_NoJob C h, it_NoJob_ValueError C h⟩) tb_nil)) (se_var 1)) sa_nil)))))
    (sss_cons (ss_app (j := 4) [] (se_isXT m_isinstance (ClsNs.cons cn_NoBack (ClsNs.cons cn_NoLine (ClsNs.cons cn_NoOrder (ClsNs.cons cn_NoSize (ClsNs.cons cn_NoTurn (ClsNs.cons cn_NoYard ClsNs.nil)))))) (tb_cons (fun C h => ⟨xk_NoText C h, (kitAny_cons (it_NoText_NoBack C h) (fun _ => (kitAny_cons (it_NoText_NoLine C h) (fun _ => (kitAny_cons (it_NoText_NoOrder C h) (fun _ => (kitAny_cons (it_NoText_NoSize C h) (fun _ => (kitAny_cons (it_NoText_NoTurn C h) (fun _ => (kitAny_cons (it_NoText_NoYard C h) (fun _ => kitAny_nil) (fun z => nomatch z))) (fun z => nomatch z))) (fun z => nomatch z))) (fun z => nomatch z))) (fun z => nomatch z))) (fun z => nomatch z))⟩) (tb_cons (fun C h => ⟨xk_NoJob C h, (kitAny_cons (it_NoJob_NoBack C h) (fun _ => (kitAny_cons (it_NoJob_NoLine C h) (fun _ => (kitAny_cons (it_NoJob_NoOrder C h) (fun _ => (kitAny_cons (it_NoJob_NoSize C h) (fun _ => (kitAny_cons (it_NoJob_NoTurn C h) (fun _ => (kitAny_cons (it_NoJob_NoYard C h) (fun _ => kitAny_nil) (fun z => nomatch z))) (fun z => nomatch z))) (fun z => nomatch z))) (fun z => nomatch z))) (fun z => nomatch z))) (fun z => nomatch z))⟩) tb_nil)) (se_var 1) (by intro x p hx; simp only [List.mem_cons, List.not_mem_nil, or_false, Expr.Name.injEq] at hx; rcases hx with ⟨rfl, _⟩ | ⟨rfl, _⟩ | ⟨rfl, _⟩ | ⟨rfl, _⟩ | ⟨rfl, _⟩ | ⟨rfl, _⟩ <;> exact ⟨rfl, by decide⟩) (by intro env x p r _; rfl) (by simp)))
    (sss_cons (ss_if [4] (st_eq (se_var 4) (SemF.e (sf_lst (sa_cons se_bl (sa_cons se_bl (sa_cons se_bl (sa_cons se_bl sa_nil)))))))
      (sss_one (ss_ret [] (se_tup (sa_cons (se_xfl (se_var 1) fun C h => ⟨xk_NoText C h, nf_NoText_line C h⟩) (sa_cons se_non sa_nil)))))
      sss_nil)
    (sss_one (ss_ret [4] (se_tup (sa_cons (se_var 4) (sa_cons se_non sa_nil))))))))))))
theorem k_law_told {T : Wd} (l_read_job : Lk T 5 "read_job" 1 f_read_job) (m_isinstance : T.mg "isinstance" = none) {C_FarError : Addr} (tx_FarError : T.mg "FarError" = some (.ref C_FarError)) (ok_FarError : ∀ (cls : Str) (b : Bool) (C : Addr), List.lookup cls [("NoText", true), ("NoJob", true)] = some b → T.mg cls = some (.ref C) → PySem.W.exmOne T.K (.ref C) (.ref C_FarError) = some b) {c_NoBack : V} {v_NoBack : Value} (cn_NoBack : ClsN T "NoBack" c_NoBack v_NoBack) {c_NoJob : V} {v_NoJob : Value} (cn_NoJob : ClsN T "NoJob" c_NoJob v_NoJob) {c_NoLine : V} {v_NoLine : Value} (cn_NoLine : ClsN T "NoLine" c_NoLine v_NoLine) {c_NoOrder : V} {v_NoOrder : Value} (cn_NoOrder : ClsN T "NoOrder" c_NoOrder v_NoOrder) {c_NoSize : V} {v_NoSize : Value} (cn_NoSize : ClsN T "NoSize" c_NoSize v_NoSize) {c_NoText : V} {v_NoText : Value} (cn_NoText : ClsN T "NoText" c_NoText v_NoText) {c_NoTurn : V} {v_NoTurn : Value} (cn_NoTurn : ClsN T "NoTurn" c_NoTurn v_NoTurn) {c_NoYard : V} {v_NoYard : Value} (cn_NoYard : ClsN T "NoYard" c_NoYard v_NoYard) {c_ValueError : V} {v_ValueError : Value} (cn_ValueError : ClsN T "ValueError" c_ValueError v_ValueError) (xk_NoJob : ∀ C, T.mg "NoJob" = some (.ref C) → ExcK T.K C) (xk_NoText : ∀ C, T.mg "NoText" = some (.ref C) → ExcK T.K C) (nf_NoText_line : ∀ C, T.mg "NoText" = some (.ref C) → PySem.W.findIn T.K (.ref C) "line" = some none) (it_NoJob_NoBack : ∀ C, T.mg "NoJob" = some (.ref C) → PySem.W.kitOne T.K (.ref C) v_NoBack = some false) (it_NoJob_NoJob : ∀ C, T.mg "NoJob" = some (.ref C) → PySem.W.kitOne T.K (.ref C) v_NoJob = some true) (it_NoJob_NoLine : ∀ C, T.mg "NoJob" = some (.ref C) → PySem.W.kitOne T.K (.ref C) v_NoLine = some false) (it_NoJob_NoOrder : ∀ C, T.mg "NoJob" = some (.ref C) → PySem.W.kitOne T.K (.ref C) v_NoOrder = some false) (it_NoJob_NoSize : ∀ C, T.mg "NoJob" = some (.ref C) → PySem.W.kitOne T.K (.ref C) v_NoSize = some false) (it_NoJob_NoText : ∀ C, T.mg "NoJob" = some (.ref C) → PySem.W.kitOne T.K (.ref C) v_NoText = some false) (it_NoJob_NoTurn : ∀ C, T.mg "NoJob" = some (.ref C) → PySem.W.kitOne T.K (.ref C) v_NoTurn = some false) (it_NoJob_NoYard : ∀ C, T.mg "NoJob" = some (.ref C) → PySem.W.kitOne T.K (.ref C) v_NoYard = some false) (it_NoJob_ValueError : ∀ C, T.mg "NoJob" = some (.ref C) → PySem.W.kitOne T.K (.ref C) v_ValueError = some true) (it_NoText_NoBack : ∀ C, T.mg "NoText" = some (.ref C) → PySem.W.kitOne T.K (.ref C) v_NoBack = some false) (it_NoText_NoJob : ∀ C, T.mg "NoText" = some (.ref C) → PySem.W.kitOne T.K (.ref C) v_NoJob = some false) (it_NoText_NoLine : ∀ C, T.mg "NoText" = some (.ref C) → PySem.W.kitOne T.K (.ref C) v_NoLine = some false) (it_NoText_NoOrder : ∀ C, T.mg "NoText" = some (.ref C) → PySem.W.kitOne T.K (.ref C) v_NoOrder = some false) (it_NoText_NoSize : ∀ C, T.mg "NoText" = some (.ref C) → PySem.W.kitOne T.K (.ref C) v_NoSize = some false) (it_NoText_NoText : ∀ C, T.mg "NoText" = some (.ref C) → PySem.W.kitOne T.K (.ref C) v_NoText = some true) (it_NoText_NoTurn : ∀ C, T.mg "NoText" = some (.ref C) → PySem.W.kitOne T.K (.ref C) v_NoTurn = some false) (it_NoText_NoYard : ∀ C, T.mg "NoText" = some (.ref C) → PySem.W.kitOne T.K (.ref C) v_NoYard = some false) (it_NoText_ValueError : ∀ C, T.mg "NoText" = some (.ref C) → PySem.W.kitOne T.K (.ref C) v_ValueError = some true) {f : Addr} {fd : FuncData} (F : Fun T.K "_law_told" "_law_told" s_law_told f fd) (g : T.mg "_law_told" = some (.ref f)) : Lk T 6 "_law_told" 1 f_law_told :=
  ⟨f, fd, ["text"], (fnG_of (tr := 0) F c_law_told rfl rfl (d_law_told l_read_job m_isinstance tx_FarError ok_FarError cn_NoBack cn_NoJob cn_NoLine cn_NoOrder cn_NoSize cn_NoText cn_NoTurn cn_NoYard cn_ValueError xk_NoJob xk_NoText nf_NoText_line it_NoJob_NoBack it_NoJob_NoJob it_NoJob_NoLine it_NoJob_NoOrder it_NoJob_NoSize it_NoJob_NoText it_NoJob_NoTurn it_NoJob_NoYard it_NoJob_ValueError it_NoText_NoBack it_NoText_NoJob it_NoText_NoLine it_NoText_NoOrder it_NoText_NoSize it_NoText_NoText it_NoText_NoTurn it_NoText_NoYard it_NoText_ValueError)).weak rfl, g, F.kp, F.binds fun _ _ _ _ _ _ us hl => match us, hl with | [_], _ => rfl⟩

/-! law_right -/
abbrev s_law_right : Stmt := top 37
def m_law_right : Env' → Res :=
  (sseq (asg 1 [] (cal f_law_read (acons (var 0) anil)))
    (sseq (sif [] (tand (asB (bi2 dLt (bi2 dIx (var 1) (cst (.int 0))) (cst (.int 0)))) (asB (bi2 dIsNotB (cal f_is_job (acons (bi2 dIx (var 1) (cst (.int 1))) anil)) (cst (.bool true)))))
      (asg 1 [] (tupD (acons (lstD (lstF (acons (cst (.bool false)) (acons (cst (.bool true)) (acons (cst (.bool true)) (acons (cst (.bool false)) anil)))))) (acons (cst .none) anil))))
      snext)
    (sseq (asg 2 [] (cal f_law_told (acons (var 0) anil)))
    (ret [] (bi2 dEq (cal dRepr (acons (var 2) anil)) (cal dRepr (acons (var 1) anil)))))))
def f_law_right (ds : List D) : Rv D := (m_law_right (entry 2 ds)).fin
theorem c_law_right : FnScope ["text", "due", "told"] ["text"] (defScope s_law_right) := ⟨rfl, rfl, rfl, by decide +kernel, rfl, by decide +kernel, by decide +kernel⟩
theorem d_law_right {T : Wd} (l_law_read : Lk T 3 "_law_read" 1 f_law_read) (l_is_job : Lk T 4 "is_job" 1 f_is_job) (l_law_told : Lk T 6 "_law_told" 1 f_law_told) (m_repr : T.mg "repr" = none) (E : XK) : SemSs ⟨T, 6, ["text", "due", "told"], defScope s_law_right, wAll E, true, fun _ => true, 0⟩ (defBody s_law_right) m_law_right :=
  (sss_cons (ss_set (i := 1) [] (se_call l_law_read (sa_cons (se_var 0) sa_nil) (acons_len anil_len)))
    (sss_cons (ss_if [] (st_w (sw_and (st_lt (se_ix (se_var 1) se_int) se_int) (sw_and1 (st_isnotB (se_call l_is_job (sa_cons (se_ix (se_var 1) se_int) sa_nil) (acons_len anil_len)) se_bl))))
      (sss_one (ss_set (i := 1) [] (se_tup (sa_cons (SemF.e (sf_lst (sa_cons se_bl (sa_cons se_bl (sa_cons se_bl (sa_cons se_bl sa_nil)))))) (sa_cons se_non sa_nil)))))
      sss_nil)
    (sss_cons (ss_set (i := 2) [] (se_call l_law_told (sa_cons (se_var 0) sa_nil) (acons_len anil_len)))
    (sss_one (ss_ret [] (se_eq (se_callB call_reprX on_repr m_repr (by decide +kernel) (sa_cons (se_var 2) sa_nil)) (se_callB call_reprX on_repr m_repr (by decide +kernel) (sa_cons (se_var 1) sa_nil))))))))
theorem k_law_right {T : Wd} (l_law_read : Lk T 3 "_law_read" 1 f_law_read) (l_is_job : Lk T 4 "is_job" 1 f_is_job) (l_law_told : Lk T 6 "_law_told" 1 f_law_told) (m_repr : T.mg "repr" = none) {f : Addr} {fd : FuncData} (F : Fun T.K "_law_right" "_law_right" s_law_right f fd) (g : T.mg "_law_right" = some (.ref f)) : Lk T 7 "_law_right" 1 f_law_right :=
  ⟨f, fd, ["text"], (fnG_of (tr := 0) F c_law_right rfl rfl (d_law_right l_law_read l_is_job l_law_told m_repr)).weak rfl, g, F.kp, F.binds fun _ _ _ _ _ _ us hl => match us, hl with | [_], _ => rfl⟩

/-! law_bent -/
abbrev s_law_bent : Stmt := top 38
def m_law_bent : Env' → Res :=
  (sseq (asg 2 [] (cst (.str "0123456789 :-\ndosenwait")))
    (sseq (sif [] (asB (bi2 dEq (bi2 dMod (bi2 dIx (var 1) (cst (.int 0))) (cst (.int 2))) (cst (.int 0))))
      (sseq (asg 2 [] (cst (.str " !\"#$&'()*+,-./0123456789:;<=>?@ABCDEFGHIJKLMNOPQRSTUVWXYZ[\\]^_`abcdefghijklmnopqrstuvwxyz{|}~")))
      (asg 2 [] (bi2 dAdd (var 2) (cst (.str "\n\t")))))
      snext)
    (sseq (asg 3 [] (bi2 dIx (var 2) (bi2 dMod (bi2 dIx (var 1) (cst (.int 1))) (cal dLen (acons (var 2) anil)))))
    (sseq (asg 4 [] (bi2 dMod (bi2 dIx (var 1) (cst (.int 2))) (bi2 dAdd (cal dLen (acons (var 0) anil)) (cst (.int 1)))))
    (sseq (sif [] (asB (bi2 dEq (bi2 dMod (bi2 dIx (var 1) (cst (.int 3))) (cst (.int 3))) (cst (.int 0))))
      (ret [] (bi2 dAdd (bi2 dAdd (slcS (var 0) onone (osome (var 4))) (var 3)) (slcS (var 0) (osome (var 4)) onone)))
      snext)
    (sseq (sif [] (asB (bi2 dEq (bi2 dMod (bi2 dIx (var 1) (cst (.int 3))) (cst (.int 3))) (cst (.int 1))))
      (ret [] (bi2 dAdd (slcS (var 0) onone (osome (var 4))) (slcS (var 0) (osome (bi2 dAdd (var 4) (cst (.int 1)))) onone)))
      snext)
    (ret [] (bi2 dAdd (bi2 dAdd (slcS (var 0) onone (osome (var 4))) (var 3)) (slcS (var 0) (osome (bi2 dAdd (var 4) (cst (.int 1)))) onone)))))))))
def f_law_bent (ds : List D) : Rv D := (m_law_bent (entry 3 ds)).fin
theorem c_law_bent : FnScope ["text", "some", "signs", "sign", "at"] ["text", "some"] (defScope s_law_bent) := ⟨rfl, rfl, rfl, by decide +kernel, rfl, by decide +kernel, by decide +kernel⟩
theorem d_law_bent {T : Wd} (m_len : T.mg "len" = none) (E : XK) : SemSs ⟨T, 0, ["text", "some", "signs", "sign", "at"], defScope s_law_bent, wAll E, true, fun _ => true, 0⟩ (defBody s_law_bent) m_law_bent :=
  (sss_cons (ss_set (i := 2) [] se_str)
    (sss_cons (ss_if [] (st_eq (se_mod (se_ix (se_var 1) se_int) se_int) se_int)
      (sss_cons (ss_set (i := 2) [] se_str)
      (sss_one (ss_set (i := 2) [] (se_add (se_var 2) se_str))))
      sss_nil)
    (sss_cons (ss_set (i := 3) [] (se_ix (se_var 2) (se_mod (se_ix (se_var 1) se_int) (se_callB (fun X hX => hX.hK ▸ call_lenA) on_len m_len PySem.boot_len (sa_cons (se_var 2) sa_nil)))))
    (sss_cons (ss_set (i := 4) [] (se_mod (se_ix (se_var 1) se_int) (se_add (se_callB (fun X hX => hX.hK ▸ call_lenA) on_len m_len PySem.boot_len (sa_cons (se_var 0) sa_nil)) se_int)))
    (sss_cons (ss_if [] (st_eq (se_mod (se_ix (se_var 1) se_int) se_int) se_int)
      (sss_one (ss_ret [] (se_add (se_add (se_sliceS (se_var 0) so_none (so_some (se_var 4))) (se_var 3)) (se_sliceS (se_var 0) (so_some (se_var 4)) so_none))))
      sss_nil)
    (sss_cons (ss_if [] (st_eq (se_mod (se_ix (se_var 1) se_int) se_int) se_int)
      (sss_one (ss_ret [] (se_add (se_sliceS (se_var 0) so_none (so_some (se_var 4))) (se_sliceS (se_var 0) (so_some (se_add (se_var 4) se_int)) so_none))))
      sss_nil)
    (sss_one (ss_ret [] (se_add (se_add (se_sliceS (se_var 0) so_none (so_some (se_var 4))) (se_var 3)) (se_sliceS (se_var 0) (so_some (se_add (se_var 4) se_int)) so_none))))))))))
theorem k_law_bent {T : Wd} (m_len : T.mg "len" = none) {f : Addr} {fd : FuncData} (F : Fun T.K "_law_bent" "_law_bent" s_law_bent f fd) (g : T.mg "_law_bent" = some (.ref f)) : Lk T 1 "_law_bent" 2 f_law_bent :=
  ⟨f, fd, ["text", "some"], (fnG_of (tr := 0) F c_law_bent rfl rfl (d_law_bent m_len)).weak rfl, g, F.kp, F.binds fun _ _ _ _ _ _ us hl => match us, hl with | [_, _], _ => rfl⟩

/-! law_bent_rows -/
abbrev s_law_bent_rows : Stmt := top 39
def m_law_bent_rows : Env' → Res :=
  (sseq (asg 2 [] (lstD (splitM (var 0) (cst (.str "\n")))))
    (sseq (asg 3 [] (bi2 dMod (bi2 dIx (var 1) (cst (.int 0))) (cal dLen (acons (var 2) anil))))
    (sseq (asg 4 [] (lstD (lstF (acons (cst (.str "")) (acons (cst (.str "1")) (acons (cst (.str "1:")) (acons (cst (.str "1: do")) (acons (cst (.str "0: do")) (acons (cst (.str "10: do")) (acons (cst (.str "01: do")) (acons (cst (.str "1 do")) (acons (cst (.str "1:do")) (acons (cst (.str "1: do ")) (acons (cst (.str "1:  do")) (acons (cst (.str " 1: do")) (acons (cst (.str "-1: do")) anil))))))))))))))))
    (sseq (asg 4 [] (lstD (biF dAddF (var 4) (lstD (lstF (acons (cst (.str "1: Do")) (acons (cst (.str "1: send")) (acons (cst (.str "1: send-")) (acons (cst (.str "1: send-0")) (acons (cst (.str "1: send-12")) (acons (cst (.str "1: send-100")) (acons (cst (.str "1: send-01")) (acons (cst (.str "1: send--1")) anil)))))))))))))
    (sseq (asg 4 [] (lstD (biF dAddF (var 4) (lstD (lstF (acons (cst (.str "1: send-1-2")) (acons (cst (.str "1: wait-1")) (acons (bi2 dAdd (cst (.str "1: do")) (bi2 dMulS (cst (.str " do")) (cst (.int 7)))) (acons (bi2 dAdd (cst (.str "1: do")) (bi2 dMulS (cst (.str " do")) (cst (.int 8)))) (acons (cst (.str "9: send-1 send-1")) (acons (cst (.str "1: sends-1")) anil)))))))))))
    (sseq (sif [] (asB (bi2 dEq (bi2 dMod (bi2 dIx (var 1) (cst (.int 1))) (cst (.int 4))) (cst (.int 0))))
      (asg 2 [] (bi2 dAdd (lstD (biF dAddF (slc (var 2) onone (osome (var 3))) (lstD (lstF (acons (bi2 dIx (var 4) (bi2 dMod (bi2 dIx (var 1) (cst (.int 2))) (cst (.int 27)))) anil))))) (slc (var 2) (osome (var 3)) onone)))
      (sif [] (asB (bi2 dEq (bi2 dMod (bi2 dIx (var 1) (cst (.int 1))) (cst (.int 4))) (cst (.int 1))))
        (asg 2 [] (bi2 dAdd (lstD (biF dAddF (slc (var 2) onone (osome (var 3))) (lstD (lstF (acons (bi2 dIx (var 4) (bi2 dMod (bi2 dIx (var 1) (cst (.int 2))) (cst (.int 27)))) anil))))) (slc (var 2) (osome (bi2 dAdd (var 3) (cst (.int 1)))) onone)))
        (sif [] (asB (bi2 dEq (bi2 dMod (bi2 dIx (var 1) (cst (.int 1))) (cst (.int 4))) (cst (.int 2))))
          (asg 2 [] (bi2 dAdd (slc (var 2) onone (osome (bi2 dAdd (var 3) (cst (.int 1))))) (slc (var 2) (osome (var 3)) onone)))
          (asg 2 [] (bi2 dAdd (slc (var 2) onone (osome (var 3))) (slc (var 2) (osome (bi2 dAdd (var 3) (cst (.int 1)))) onone))))))
    (ret [] (joinM (cst (.str "\n")) (var 2)))))))))
def f_law_bent_rows (ds : List D) : Rv D := (m_law_bent_rows (entry 3 ds)).fin
theorem c_law_bent_rows : FnScope ["text", "some", "lines", "at", "bad"] ["text", "some"] (defScope s_law_bent_rows) := ⟨rfl, rfl, rfl, by decide +kernel, rfl, by decide +kernel, by decide +kernel⟩
theorem d_law_bent_rows {T : Wd} (m_len : T.mg "len" = none) (E : XK) : SemSs ⟨T, 0, ["text", "some", "lines", "at", "bad"], defScope s_law_bent_rows, wAll E, true, fun _ => true, 0⟩ (defBody s_law_bent_rows) m_law_bent_rows :=
  (sss_cons (ss_set (i := 2) [] (SemF.e (sf_split (se_var 0) se_str)))
    (sss_cons (ss_set (i := 3) [] (se_mod (se_ix (se_var 1) se_int) (se_callB (fun X hX => hX.hK ▸ call_lenA) on_len m_len PySem.boot_len (sa_cons (se_var 2) sa_nil))))
    (sss_cons (ss_set (i := 4) [] (SemF.e (sf_lst (sa_cons se_str (sa_cons se_str (sa_cons se_str (sa_cons se_str (sa_cons se_str (sa_cons se_str (sa_cons se_str (sa_cons se_str (sa_cons se_str (sa_cons se_str (sa_cons se_str (sa_cons se_str (sa_cons se_str sa_nil))))))))))))))))
    (sss_cons (ss_set (i := 4) [] (SemF.e (sf_add (se_var 4) (SemF.e (sf_lst (sa_cons se_str (sa_cons se_str (sa_cons se_str (sa_cons se_str (sa_cons se_str (sa_cons se_str (sa_cons se_str (sa_cons se_str sa_nil)))))))))))))
    (sss_cons (ss_set (i := 4) [] (SemF.e (sf_add (se_var 4) (SemF.e (sf_lst (sa_cons se_str (sa_cons se_str (sa_cons (se_add se_str (se_mulS se_str se_int)) (sa_cons (se_add se_str (se_mulS se_str se_int)) (sa_cons se_str (sa_cons se_str sa_nil)))))))))))
    (sss_cons (ss_if [] (st_eq (se_mod (se_ix (se_var 1) se_int) se_int) se_int)
      (sss_one (ss_set (i := 2) [] (se_add (SemF.e (sf_add (se_slice (se_var 2) so_none (so_some (se_var 3))) (SemF.e (sf_lst (sa_cons (se_ix (se_var 4) (se_mod (se_ix (se_var 1) se_int) se_int)) sa_nil))))) (se_slice (se_var 2) (so_some (se_var 3)) so_none))))
      (sss_one (ss_if [] (st_eq (se_mod (se_ix (se_var 1) se_int) se_int) se_int)
        (sss_one (ss_set (i := 2) [] (se_add (SemF.e (sf_add (se_slice (se_var 2) so_none (so_some (se_var 3))) (SemF.e (sf_lst (sa_cons (se_ix (se_var 4) (se_mod (se_ix (se_var 1) se_int) se_int)) sa_nil))))) (se_slice (se_var 2) (so_some (se_add (se_var 3) se_int)) so_none))))
        (sss_one (ss_if [] (st_eq (se_mod (se_ix (se_var 1) se_int) se_int) se_int)
          (sss_one (ss_set (i := 2) [] (se_add (se_slice (se_var 2) so_none (so_some (se_add (se_var 3) se_int))) (se_slice (se_var 2) (so_some (se_var 3)) so_none))))
          (sss_one (ss_set (i := 2) [] (se_add (se_slice (se_var 2) so_none (so_some (se_var 3))) (se_slice (se_var 2) (so_some (se_add (se_var 3) se_int)) so_none)))))))))
    (sss_one (ss_ret [] (se_join se_str (se_var 2))))))))))
theorem k_law_bent_rows {T : Wd} (m_len : T.mg "len" = none) {f : Addr} {fd : FuncData} (F : Fun T.K "_law_bent_rows" "_law_bent_rows" s_law_bent_rows f fd) (g : T.mg "_law_bent_rows" = some (.ref f)) : Lk T 1 "_law_bent_rows" 2 f_law_bent_rows :=
  ⟨f, fd, ["text", "some"], (fnG_of (tr := 0) F c_law_bent_rows rfl rfl (d_law_bent_rows m_len)).weak rfl, g, F.kp, F.binds fun _ _ _ _ _ _ us hl => match us, hl with | [_, _], _ => rfl⟩

/-! law -/
abbrev s_law : Stmt := top 40
def m_law : Env' → Res :=
  (sseq (asg 1 [] (lstD (calF dList (acons (slc (var 0) onone (osome (cst (.int 10)))) anil))))
    (sseq (sif [] (asB (bi2 dEq (var 1) (lstD (lstF anil))))
      (asg 1 [] (lstD (lstF (acons (cst (.int 8)) anil))))
      snext)
    (sseq (sforE [] [2, 3] (acons (var 1) anil)
      (sseq (asg 4 [] (cal f_law_text (acons (cal f_law_job (acons (slc (var 0) (osome (bi2 dDiv (var 2) (cst (.int 2)))) onone) (acons (cst (.int 12)) anil))) anil)))
      (sseq (asg 5 [] (slc (cal f_law_digits (acons (var 3) (acons (cst (.int 74)) anil))) (osome (cst (.int 60))) onone))
      (sseq (asg 6 [] (cal f_law_bent_rows (acons (cal f_law_bent_rows (acons (var 4) (acons (slc (var 5) (osome (cst (.int 7))) onone) anil))) (acons (slc (var 5) (osome (cst (.int 10))) onone) anil))))
      (sfor [] (bName 7) (lstD (lstF (acons (cal f_law_bent (acons (var 4) (acons (var 5) anil))) (acons (cal f_law_bent_rows (acons (var 4) (acons (slc (var 5) (osome (cst (.int 4))) onone) anil))) (acons (var 6) (acons (cal f_law_bent (acons (var 6) (acons (var 5) anil))) (acons (var 4) anil)))))))
        (sif [] (tor (tnot (asB (cal f_law_right (acons (var 7) anil)))) (tnot (asB (cal f_law_right (acons (slcS (var 7) onone (osome (una dNeg (cst (.int 1))))) anil)))))
          (ret [] (cst (.bool false)))
          snext))))))
    (sseq (asg 8 [] (lstD (lstF (acons (cst (.str "")) (acons (cst (.str "\n")) (acons (cst (.str "1: do")) (acons (cst (.str "1: do\n")) (acons (cst (.str "1: send-1\n")) (acons (cst (.str "1: send-1\n1: do\n")) (acons (bi2 dMulS (cst (.str "1: do\n")) (cst (.int 13))) (acons (cst (.str "1:\n")) (acons (cst (.str "1: wait\n")) anil))))))))))))
    (sseq (asg 8 [] (lstD (biF dAddF (var 8) (lstD (lstF (acons (bi2 dAdd (bi2 dAdd (cst (.str "1: send-")) (bi2 dMulS (cst (.str "1")) (cst (.int 5000)))) (cst (.str "\n"))) (acons (bi2 dAdd (bi2 dMulS (cst (.str "9")) (cst (.int 5000))) (cst (.str ": do\n"))) (acons (bi2 dAdd (cst (.str "1: do\n")) (bi2 dMulS (cst (.str "7")) (cst (.int 5000)))) anil))))))))
    (sseq (asg 9 [] (bi2 dAdd (cst (.int 14)) (bi2 dMod (cal dAbs (acons (cal f_law_at (acons (var 0) (acons (cst (.int 0)) anil))) anil)) (cst (.int 40)))))
    (sseq (asg 8 [] (lstD (biF dAddF (var 8) (lstD (lstF (acons (bi2 dAdd (bi2 dMulS (cst (.str "1: do\n")) (var 9)) (cst (.str "x\n"))) (acons (bi2 dAdd (bi2 dMulS (cst (.str "1: do\n")) (var 9)) (cst (.str "1: do"))) (acons (bi2 dAdd (bi2 dAdd (bi2 dMulS (cst (.str "1: do\n")) (var 9)) (cst (.str "0: do\n"))) (cst (.str "x\n"))) anil))))))))
    (sseq (sfor [] (bName 4) (var 8)
      (sif [] (tnot (asB (cal f_law_right (acons (var 4) anil))))
        (ret [] (cst (.bool false)))
        snext))
    (ret [] (bi2 dEq (xfl "NoText" "line" (mkx "NoText" "line" (cst (.int 7)))) (cst (.int 7))))))))))))
def f_law (ds : List D) : Rv D := (m_law (entry 9 ds)).fin
theorem c_law : FnScope ["script", "cells", "k", "cell", "text", "some", "doubly", "bent", "texts", "many"] ["script"] (defScope s_law) := ⟨rfl, rfl, rfl, by decide +kernel, rfl, by decide +kernel, by decide +kernel⟩
theorem d_law {T : Wd} (l_law_text : Lk T 1 "_law_text" 1 f_law_text) (l_law_job : Lk T 3 "_law_job" 2 f_law_job) (l_law_digits : Lk T 2 "_law_digits" 2 f_law_digits) (l_law_bent_rows : Lk T 1 "_law_bent_rows" 2 f_law_bent_rows) (l_law_right : Lk T 7 "_law_right" 1 f_law_right) (l_law_bent : Lk T 1 "_law_bent" 2 f_law_bent) (l_law_at : Lk T 1 "_law_at" 2 f_law_at) (m_list : T.mg "list" = none) (m_enumerate : T.mg "enumerate" = none) (m_abs : T.mg "abs" = none) (rz_NoText : RaisI T 1 "NoText" "line") (xk_NoText : ∀ C, T.mg "NoText" = some (.ref C) → ExcK T.K C) (nf_NoText_line : ∀ C, T.mg "NoText" = some (.ref C) → PySem.W.findIn T.K (.ref C) "line" = some none) (E : XK) : SemSs ⟨T, 7, ["script", "cells", "k", "cell", "text", "some", "doubly", "bent", "texts", "many"], defScope s_law, wAll E, true, fun _ => true, 0⟩ (defBody s_law) m_law :=
  (sss_cons (ss_set (i := 1) [] (SemF.e (sf_callTy (fun X hX => hX.hK ▸ call_list_of) on_list m_list (by decide +kernel) (sa_cons (se_slice (se_var 0) so_none (so_some se_int)) sa_nil))))
    (sss_cons (ss_if [] (st_eq (se_var 1) (SemF.e (sf_lst sa_nil)))
      (sss_one (ss_set (i := 1) [] (SemF.e (sf_lst (sa_cons se_int sa_nil)))))
      sss_nil)
    (sss_cons (ss_forE [] m_enumerate (sg_cons 2 (sg_cons 3 sg_nil)) (sa_cons (se_var 1) sa_nil)
      (sss_cons (ss_set (i := 4) [] (se_call l_law_text (sa_cons (se_call l_law_job (sa_cons (se_slice (se_var 0) (so_some (se_div (se_var 2) se_int)) so_none) (sa_cons se_int sa_nil)) (acons_len (acons_len anil_len))) sa_nil) (acons_len anil_len)))
      (sss_cons (ss_set (i := 5) [] (se_slice (se_call l_law_digits (sa_cons (se_var 3) (sa_cons se_int sa_nil)) (acons_len (acons_len anil_len))) (so_some se_int) so_none))
      (sss_cons (ss_set (i := 6) [] (se_call l_law_bent_rows (sa_cons (se_call l_law_bent_rows (sa_cons (se_var 4) (sa_cons (se_slice (se_var 5) (so_some se_int) so_none) sa_nil)) (acons_len (acons_len anil_len))) (sa_cons (se_slice (se_var 5) (so_some se_int) so_none) sa_nil)) (acons_len (acons_len anil_len))))
      (sss_one (ss_for [] (tg_name 7) (SemF.e (sf_lst (sa_cons (se_call l_law_bent (sa_cons (se_var 4) (sa_cons (se_var 5) sa_nil)) (acons_len (acons_len anil_len))) (sa_cons (se_call l_law_bent_rows (sa_cons (se_var 4) (sa_cons (se_slice (se_var 5) (so_some se_int) so_none) sa_nil)) (acons_len (acons_len anil_len))) (sa_cons (se_var 6) (sa_cons (se_call l_law_bent (sa_cons (se_var 6) (sa_cons (se_var 5) sa_nil)) (acons_len (acons_len anil_len))) (sa_cons (se_var 4) sa_nil)))))))
        (sss_one (ss_if [] (st_w (sw_or (st_not (st_val (se_call l_law_right (sa_cons (se_var 7) sa_nil) (acons_len anil_len)))) (sw_or1 (st_not (st_val (se_call l_law_right (sa_cons (se_sliceS (se_var 7) so_none (so_some (se_neg se_int))) sa_nil) (acons_len anil_len)))))))
          (sss_one (ss_ret [] se_bl))
          sss_nil))))))))
    (sss_cons (ss_set (i := 8) [] (SemF.e (sf_lst (sa_cons se_str (sa_cons se_str (sa_cons se_str (sa_cons se_str (sa_cons se_str (sa_cons se_str (sa_cons (se_mulS se_str se_int) (sa_cons se_str (sa_cons se_str sa_nil))))))))))))
    (sss_cons (ss_set (i := 8) [] (SemF.e (sf_add (se_var 8) (SemF.e (sf_lst (sa_cons (se_add (se_add se_str (se_mulS se_str se_int)) se_str) (sa_cons (se_add (se_mulS se_str se_int) se_str) (sa_cons (se_add se_str (se_mulS se_str se_int)) sa_nil))))))))
    (sss_cons (ss_set (i := 9) [] (se_add se_int (se_mod (se_callB (fun _ _ => call_abs) on_abs m_abs (by decide +kernel) (sa_cons (se_call l_law_at (sa_cons (se_var 0) (sa_cons se_int sa_nil)) (acons_len (acons_len anil_len))) sa_nil)) se_int)))
    (sss_cons (ss_set (i := 8) [] (SemF.e (sf_add (se_var 8) (SemF.e (sf_lst (sa_cons (se_add (se_mulS se_str (se_var 9)) se_str) (sa_cons (se_add (se_mulS se_str (se_var 9)) se_str) (sa_cons (se_add (se_add (se_mulS se_str (se_var 9)) se_str) se_str) sa_nil))))))))
    (sss_cons (ss_for [] (tg_name 4) (se_var 8)
      (sss_one (ss_if [] (st_not (st_val (se_call l_law_right (sa_cons (se_var 4) sa_nil) (acons_len anil_len))))
        (sss_one (ss_ret [] se_bl))
        sss_nil)))
    (sss_one (ss_ret [] (se_eq (se_xfl (se_mkx1 rz_NoText se_int) fun C h => ⟨xk_NoText C h, nf_NoText_line C h⟩) se_int)))))))))))
theorem k_law {T : Wd} (l_law_text : Lk T 1 "_law_text" 1 f_law_text) (l_law_job : Lk T 3 "_law_job" 2 f_law_job) (l_law_digits : Lk T 2 "_law_digits" 2 f_law_digits) (l_law_bent_rows : Lk T 1 "_law_bent_rows" 2 f_law_bent_rows) (l_law_right : Lk T 7 "_law_right" 1 f_law_right) (l_law_bent : Lk T 1 "_law_bent" 2 f_law_bent) (l_law_at : Lk T 1 "_law_at" 2 f_law_at) (m_list : T.mg "list" = none) (m_enumerate : T.mg "enumerate" = none) (m_abs : T.mg "abs" = none) (rz_NoText : RaisI T 1 "NoText" "line") (xk_NoText : ∀ C, T.mg "NoText" = some (.ref C) → ExcK T.K C) (nf_NoText_line : ∀ C, T.mg "NoText" = some (.ref C) → PySem.W.findIn T.K (.ref C) "line" = some none) {f : Addr} {fd : FuncData} (F : Fun T.K "law" "law" s_law f fd) (g : T.mg "law" = some (.ref f)) : Lk T 8 "law" 1 f_law :=
  ⟨f, fd, ["script"], (fnG_of (tr := 0) F c_law rfl rfl (d_law l_law_text l_law_job l_law_digits l_law_bent_rows l_law_right l_law_bent l_law_at m_list m_enumerate m_abs rz_NoText xk_NoText nf_NoText_line)).weak rfl, g, F.kp, F.binds fun _ _ _ _ _ _ us hl => match us, hl with | [_], _ => rfl⟩
set_option maxHeartbeats 4000000 in
theorem all_mk {P : Program} {w : World} {K : PySem.W.Frag} {mg : Str → Option Value} {h base : Heap} (X : K.In h) (G : h.Ns mainGlobals mg)
    {g_is_whole : Addr} {od_is_whole an_is_whole : Option Addr} {sl_is_whole : Array (Option Value)} {oc_is_whole kV_is_whole dc_is_whole pm_is_whole cd_is_whole ct_is_whole : Value} (a_is_whole : PySem.W.nsIn K mainGlobals "is_whole" = some (some (.ref g_is_whole))) (l_is_whole : K.lookup g_is_whole = some ⟨oc_is_whole, od_is_whole, .func (PySem.W.fnOf "is_whole" "is_whole" (defArgs s_is_whole) (defBody s_is_whole) (defScope s_is_whole) .none kV_is_whole dc_is_whole pm_is_whole an_is_whole cd_is_whole ct_is_whole), sl_is_whole⟩) (c_is_whole : PySem.W.codeIn K cd_is_whole "is_whole" = true) (k_is_whole : PySem.W.keepIn K (.ref g_is_whole) = true)
    {g_is_step : Addr} {od_is_step an_is_step : Option Addr} {sl_is_step : Array (Option Value)} {oc_is_step kV_is_step dc_is_step pm_is_step cd_is_step ct_is_step : Value} (a_is_step : PySem.W.nsIn K mainGlobals "is_step" = some (some (.ref g_is_step))) (l_is_step : K.lookup g_is_step = some ⟨oc_is_step, od_is_step, .func (PySem.W.fnOf "is_step" "is_step" (defArgs s_is_step) (defBody s_is_step) (defScope s_is_step) .none kV_is_step dc_is_step pm_is_step an_is_step cd_is_step ct_is_step), sl_is_step⟩) (c_is_step : PySem.W.codeIn K cd_is_step "is_step" = true) (k_is_step : PySem.W.keepIn K (.ref g_is_step) = true)
    {g_is_work : Addr} {od_is_work an_is_work : Option Addr} {sl_is_work : Array (Option Value)} {oc_is_work kV_is_work dc_is_work pm_is_work cd_is_work ct_is_work : Value} (a_is_work : PySem.W.nsIn K mainGlobals "is_work" = some (some (.ref g_is_work))) (l_is_work : K.lookup g_is_work = some ⟨oc_is_work, od_is_work, .func (PySem.W.fnOf "is_work" "is_work" (defArgs s_is_work) (defBody s_is_work) (defScope s_is_work) .none kV_is_work dc_is_work pm_is_work an_is_work cd_is_work ct_is_work), sl_is_work⟩) (c_is_work : PySem.W.codeIn K cd_is_work "is_work" = true) (k_is_work : PySem.W.keepIn K (.ref g_is_work) = true)
    {g_sent_by : Addr} {od_sent_by an_sent_by : Option Addr} {sl_sent_by : Array (Option Value)} {oc_sent_by kV_sent_by dc_sent_by pm_sent_by cd_sent_by ct_sent_by : Value} (a_sent_by : PySem.W.nsIn K mainGlobals "sent_by" = some (some (.ref g_sent_by))) (l_sent_by : K.lookup g_sent_by = some ⟨oc_sent_by, od_sent_by, .func (PySem.W.fnOf "sent_by" "sent_by" (defArgs s_sent_by) (defBody s_sent_by) (defScope s_sent_by) .none kV_sent_by dc_sent_by pm_sent_by an_sent_by cd_sent_by ct_sent_by), sl_sent_by⟩) (c_sent_by : PySem.W.codeIn K cd_sent_by "sent_by" = true) (k_sent_by : PySem.W.keepIn K (.ref g_sent_by) = true)
    {g_is_job : Addr} {od_is_job an_is_job : Option Addr} {sl_is_job : Array (Option Value)} {oc_is_job kV_is_job dc_is_job pm_is_job cd_is_job ct_is_job : Value} (a_is_job : PySem.W.nsIn K mainGlobals "is_job" = some (some (.ref g_is_job))) (l_is_job : K.lookup g_is_job = some ⟨oc_is_job, od_is_job, .func (PySem.W.fnOf "is_job" "is_job" (defArgs s_is_job) (defBody s_is_job) (defScope s_is_job) .none kV_is_job dc_is_job pm_is_job an_is_job cd_is_job ct_is_job), sl_is_job⟩) (c_is_job : PySem.W.codeIn K cd_is_job "is_job" = true) (k_is_job : PySem.W.keepIn K (.ref g_is_job) = true)
    {g_number_of : Addr} {od_number_of an_number_of : Option Addr} {sl_number_of : Array (Option Value)} {oc_number_of kV_number_of dc_number_of pm_number_of cd_number_of ct_number_of : Value} (a_number_of : PySem.W.nsIn K mainGlobals "number_of" = some (some (.ref g_number_of))) (l_number_of : K.lookup g_number_of = some ⟨oc_number_of, od_number_of, .func (PySem.W.fnOf "number_of" "number_of" (defArgs s_number_of) (defBody s_number_of) (defScope s_number_of) .none kV_number_of dc_number_of pm_number_of an_number_of cd_number_of ct_number_of), sl_number_of⟩) (c_number_of : PySem.W.codeIn K cd_number_of "number_of" = true) (k_number_of : PySem.W.keepIn K (.ref g_number_of) = true)
    {g_step_of : Addr} {od_step_of an_step_of : Option Addr} {sl_step_of : Array (Option Value)} {oc_step_of kV_step_of dc_step_of pm_step_of cd_step_of ct_step_of : Value} (a_step_of : PySem.W.nsIn K mainGlobals "step_of" = some (some (.ref g_step_of))) (l_step_of : K.lookup g_step_of = some ⟨oc_step_of, od_step_of, .func (PySem.W.fnOf "step_of" "step_of" (defArgs s_step_of) (defBody s_step_of) (defScope s_step_of) .none kV_step_of dc_step_of pm_step_of an_step_of cd_step_of ct_step_of), sl_step_of⟩) (c_step_of : PySem.W.codeIn K cd_step_of "step_of" = true) (k_step_of : PySem.W.keepIn K (.ref g_step_of) = true)
    {g_work_of : Addr} {od_work_of an_work_of : Option Addr} {sl_work_of : Array (Option Value)} {oc_work_of kV_work_of dc_work_of pm_work_of cd_work_of ct_work_of : Value} (a_work_of : PySem.W.nsIn K mainGlobals "work_of" = some (some (.ref g_work_of))) (l_work_of : K.lookup g_work_of = some ⟨oc_work_of, od_work_of, .func (PySem.W.fnOf "work_of" "work_of" (defArgs s_work_of) (defBody s_work_of) (defScope s_work_of) .none kV_work_of dc_work_of pm_work_of an_work_of cd_work_of ct_work_of), sl_work_of⟩) (c_work_of : PySem.W.codeIn K cd_work_of "work_of" = true) (k_work_of : PySem.W.keepIn K (.ref g_work_of) = true)
    {g_read_job : Addr} {od_read_job an_read_job : Option Addr} {sl_read_job : Array (Option Value)} {oc_read_job kV_read_job dc_read_job pm_read_job cd_read_job ct_read_job : Value} (a_read_job : PySem.W.nsIn K mainGlobals "read_job" = some (some (.ref g_read_job))) (l_read_job : K.lookup g_read_job = some ⟨oc_read_job, od_read_job, .func (PySem.W.fnOf "read_job" "read_job" (defArgs s_read_job) (defBody s_read_job) (defScope s_read_job) .none kV_read_job dc_read_job pm_read_job an_read_job cd_read_job ct_read_job), sl_read_job⟩) (c_read_job : PySem.W.codeIn K cd_read_job "read_job" = true) (k_read_job : PySem.W.keepIn K (.ref g_read_job) = true)
    {g_law_mix : Addr} {od_law_mix an_law_mix : Option Addr} {sl_law_mix : Array (Option Value)} {oc_law_mix kV_law_mix dc_law_mix pm_law_mix cd_law_mix ct_law_mix : Value} (a_law_mix : PySem.W.nsIn K mainGlobals "_law_mix" = some (some (.ref g_law_mix))) (l_law_mix : K.lookup g_law_mix = some ⟨oc_law_mix, od_law_mix, .func (PySem.W.fnOf "_law_mix" "_law_mix" (defArgs s_law_mix) (defBody s_law_mix) (defScope s_law_mix) .none kV_law_mix dc_law_mix pm_law_mix an_law_mix cd_law_mix ct_law_mix), sl_law_mix⟩) (c_law_mix : PySem.W.codeIn K cd_law_mix "_law_mix" = true) (k_law_mix : PySem.W.keepIn K (.ref g_law_mix) = true)
    {g_law_digits : Addr} {od_law_digits an_law_digits : Option Addr} {sl_law_digits : Array (Option Value)} {oc_law_digits kV_law_digits dc_law_digits pm_law_digits cd_law_digits ct_law_digits : Value} (a_law_digits : PySem.W.nsIn K mainGlobals "_law_digits" = some (some (.ref g_law_digits))) (l_law_digits : K.lookup g_law_digits = some ⟨oc_law_digits, od_law_digits, .func (PySem.W.fnOf "_law_digits" "_law_digits" (defArgs s_law_digits) (defBody s_law_digits) (defScope s_law_digits) .none kV_law_digits dc_law_digits pm_law_digits an_law_digits cd_law_digits ct_law_digits), sl_law_digits⟩) (c_law_digits : PySem.W.codeIn K cd_law_digits "_law_digits" = true) (k_law_digits : PySem.W.keepIn K (.ref g_law_digits) = true)
    {g_law_at : Addr} {od_law_at an_law_at : Option Addr} {sl_law_at : Array (Option Value)} {oc_law_at kV_law_at dc_law_at pm_law_at cd_law_at ct_law_at : Value} (a_law_at : PySem.W.nsIn K mainGlobals "_law_at" = some (some (.ref g_law_at))) (l_law_at : K.lookup g_law_at = some ⟨oc_law_at, od_law_at, .func (PySem.W.fnOf "_law_at" "_law_at" (defArgs s_law_at) (defBody s_law_at) (defScope s_law_at) .none kV_law_at dc_law_at pm_law_at an_law_at cd_law_at ct_law_at), sl_law_at⟩) (c_law_at : PySem.W.codeIn K cd_law_at "_law_at" = true) (k_law_at : PySem.W.keepIn K (.ref g_law_at) = true)
    {g_law_job : Addr} {od_law_job an_law_job : Option Addr} {sl_law_job : Array (Option Value)} {oc_law_job kV_law_job dc_law_job pm_law_job cd_law_job ct_law_job : Value} (a_law_job : PySem.W.nsIn K mainGlobals "_law_job" = some (some (.ref g_law_job))) (l_law_job : K.lookup g_law_job = some ⟨oc_law_job, od_law_job, .func (PySem.W.fnOf "_law_job" "_law_job" (defArgs s_law_job) (defBody s_law_job) (defScope s_law_job) .none kV_law_job dc_law_job pm_law_job an_law_job cd_law_job ct_law_job), sl_law_job⟩) (c_law_job : PySem.W.codeIn K cd_law_job "_law_job" = true) (k_law_job : PySem.W.keepIn K (.ref g_law_job) = true)
    {g_law_text : Addr} {od_law_text an_law_text : Option Addr} {sl_law_text : Array (Option Value)} {oc_law_text kV_law_text dc_law_text pm_law_text cd_law_text ct_law_text : Value} (a_law_text : PySem.W.nsIn K mainGlobals "_law_text" = some (some (.ref g_law_text))) (l_law_text : K.lookup g_law_text = some ⟨oc_law_text, od_law_text, .func (PySem.W.fnOf "_law_text" "_law_text" (defArgs s_law_text) (defBody s_law_text) (defScope s_law_text) .none kV_law_text dc_law_text pm_law_text an_law_text cd_law_text ct_law_text), sl_law_text⟩) (c_law_text : PySem.W.codeIn K cd_law_text "_law_text" = true) (k_law_text : PySem.W.keepIn K (.ref g_law_text) = true)
    {g_law_number : Addr} {od_law_number an_law_number : Option Addr} {sl_law_number : Array (Option Value)} {oc_law_number kV_law_number dc_law_number pm_law_number cd_law_number ct_law_number : Value} (a_law_number : PySem.W.nsIn K mainGlobals "_law_number" = some (some (.ref g_law_number))) (l_law_number : K.lookup g_law_number = some ⟨oc_law_number, od_law_number, .func (PySem.W.fnOf "_law_number" "_law_number" (defArgs s_law_number) (defBody s_law_number) (defScope s_law_number) .none kV_law_number dc_law_number pm_law_number an_law_number cd_law_number ct_law_number), sl_law_number⟩) (c_law_number : PySem.W.codeIn K cd_law_number "_law_number" = true) (k_law_number : PySem.W.keepIn K (.ref g_law_number) = true)
    {g_law_work : Addr} {od_law_work an_law_work : Option Addr} {sl_law_work : Array (Option Value)} {oc_law_work kV_law_work dc_law_work pm_law_work cd_law_work ct_law_work : Value} (a_law_work : PySem.W.nsIn K mainGlobals "_law_work" = some (some (.ref g_law_work))) (l_law_work : K.lookup g_law_work = some ⟨oc_law_work, od_law_work, .func (PySem.W.fnOf "_law_work" "_law_work" (defArgs s_law_work) (defBody s_law_work) (defScope s_law_work) .none kV_law_work dc_law_work pm_law_work an_law_work cd_law_work ct_law_work), sl_law_work⟩) (c_law_work : PySem.W.codeIn K cd_law_work "_law_work" = true) (k_law_work : PySem.W.keepIn K (.ref g_law_work) = true)
    {g_law_read : Addr} {od_law_read an_law_read : Option Addr} {sl_law_read : Array (Option Value)} {oc_law_read kV_law_read dc_law_read pm_law_read cd_law_read ct_law_read : Value} (a_law_read : PySem.W.nsIn K mainGlobals "_law_read" = some (some (.ref g_law_read))) (l_law_read : K.lookup g_law_read = some ⟨oc_law_read, od_law_read, .func (PySem.W.fnOf "_law_read" "_law_read" (defArgs s_law_read) (defBody s_law_read) (defScope s_law_read) .none kV_law_read dc_law_read pm_law_read an_law_read cd_law_read ct_law_read), sl_law_read⟩) (c_law_read : PySem.W.codeIn K cd_law_read "_law_read" = true) (k_law_read : PySem.W.keepIn K (.ref g_law_read) = true)
    {g_law_told : Addr} {od_law_told an_law_told : Option Addr} {sl_law_told : Array (Option Value)} {oc_law_told kV_law_told dc_law_told pm_law_told cd_law_told ct_law_told : Value} (a_law_told : PySem.W.nsIn K mainGlobals "_law_told" = some (some (.ref g_law_told))) (l_law_told : K.lookup g_law_told = some ⟨oc_law_told, od_law_told, .func (PySem.W.fnOf "_law_told" "_law_told" (defArgs s_law_told) (defBody s_law_told) (defScope s_law_told) .none kV_law_told dc_law_told pm_law_told an_law_told cd_law_told ct_law_told), sl_law_told⟩) (c_law_told : PySem.W.codeIn K cd_law_told "_law_told" = true) (k_law_told : PySem.W.keepIn K (.ref g_law_told) = true)
    {g_law_right : Addr} {od_law_right an_law_right : Option Addr} {sl_law_right : Array (Option Value)} {oc_law_right kV_law_right dc_law_right pm_law_right cd_law_right ct_law_right : Value} (a_law_right : PySem.W.nsIn K mainGlobals "_law_right" = some (some (.ref g_law_right))) (l_law_right : K.lookup g_law_right = some ⟨oc_law_right, od_law_right, .func (PySem.W.fnOf "_law_right" "_law_right" (defArgs s_law_right) (defBody s_law_right) (defScope s_law_right) .none kV_law_right dc_law_right pm_law_right an_law_right cd_law_right ct_law_right), sl_law_right⟩) (c_law_right : PySem.W.codeIn K cd_law_right "_law_right" = true) (k_law_right : PySem.W.keepIn K (.ref g_law_right) = true)
    {g_law_bent : Addr} {od_law_bent an_law_bent : Option Addr} {sl_law_bent : Array (Option Value)} {oc_law_bent kV_law_bent dc_law_bent pm_law_bent cd_law_bent ct_law_bent : Value} (a_law_bent : PySem.W.nsIn K mainGlobals "_law_bent" = some (some (.ref g_law_bent))) (l_law_bent : K.lookup g_law_bent = some ⟨oc_law_bent, od_law_bent, .func (PySem.W.fnOf "_law_bent" "_law_bent" (defArgs s_law_bent) (defBody s_law_bent) (defScope s_law_bent) .none kV_law_bent dc_law_bent pm_law_bent an_law_bent cd_law_bent ct_law_bent), sl_law_bent⟩) (c_law_bent : PySem.W.codeIn K cd_law_bent "_law_bent" = true) (k_law_bent : PySem.W.keepIn K (.ref g_law_bent) = true)
    {g_law_bent_rows : Addr} {od_law_bent_rows an_law_bent_rows : Option Addr} {sl_law_bent_rows : Array (Option Value)} {oc_law_bent_rows kV_law_bent_rows dc_law_bent_rows pm_law_bent_rows cd_law_bent_rows ct_law_bent_rows : Value} (a_law_bent_rows : PySem.W.nsIn K mainGlobals "_law_bent_rows" = some (some (.ref g_law_bent_rows))) (l_law_bent_rows : K.lookup g_law_bent_rows = some ⟨oc_law_bent_rows, od_law_bent_rows, .func (PySem.W.fnOf "_law_bent_rows" "_law_bent_rows" (defArgs s_law_bent_rows) (defBody s_law_bent_rows) (defScope s_law_bent_rows) .none kV_law_bent_rows dc_law_bent_rows pm_law_bent_rows an_law_bent_rows cd_law_bent_rows ct_law_bent_rows), sl_law_bent_rows⟩) (c_law_bent_rows : PySem.W.codeIn K cd_law_bent_rows "_law_bent_rows" = true) (k_law_bent_rows : PySem.W.keepIn K (.ref g_law_bent_rows) = true)
    {g_law : Addr} {od_law an_law : Option Addr} {sl_law : Array (Option Value)} {oc_law kV_law dc_law pm_law cd_law ct_law : Value} (a_law : PySem.W.nsIn K mainGlobals "law" = some (some (.ref g_law))) (l_law : K.lookup g_law = some ⟨oc_law, od_law, .func (PySem.W.fnOf "law" "law" (defArgs s_law) (defBody s_law) (defScope s_law) .none kV_law dc_law pm_law an_law cd_law ct_law), sl_law⟩) (c_law : PySem.W.codeIn K cd_law "law" = true) (k_law : PySem.W.keepIn K (.ref g_law) = true)
    {t_MOST_ROOM_jobs : Tok} (gn_MOST_ROOM_jobs : PySem.W.nsIn K mainGlobals "MOST_ROOM_jobs" = some (some (.int 9 t_MOST_ROOM_jobs)))
    {t_MOST_ROOM_texts : Tok} (gn_MOST_ROOM_texts : PySem.W.nsIn K mainGlobals "MOST_ROOM_texts" = some (some (.int 9 t_MOST_ROOM_texts)))
    {t_MOST_STEPS_jobs : Tok} (gn_MOST_STEPS_jobs : PySem.W.nsIn K mainGlobals "MOST_STEPS_jobs" = some (some (.int 8 t_MOST_STEPS_jobs)))
    {t_MOST_STEPS_texts : Tok} (gn_MOST_STEPS_texts : PySem.W.nsIn K mainGlobals "MOST_STEPS_texts" = some (some (.int 8 t_MOST_STEPS_texts)))
    {t_MOST_WORKS : Tok} (gn_MOST_WORKS : PySem.W.nsIn K mainGlobals "MOST_WORKS" = some (some (.int 12 t_MOST_WORKS)))
    {t_FIGURES : Tok} (gn_FIGURES : PySem.W.nsIn K mainGlobals "FIGURES" = some (some (.str "0123456789" t_FIGURES)))
    {C_NoJob : Addr} (g_NoJob : PySem.W.nsIn K mainGlobals "NoJob" = some (some (.ref C_NoJob)))
    (xe_NoJob : PySem.W.excIn K C_NoJob [.type "ValueError", .type "Exception", .type "BaseException", .type "object"] "ValueError.__new__" = true)
    (kp_NoJob : PySem.W.keepIn K (.ref C_NoJob) = true)
    (sb_NoJob : PySem.W.subIn K (.ref C_NoJob) (.type "BaseException") = some true)
    (ty_NoJob : PySem.W.typeIn K (.ref C_NoJob) = some (.type "type"))
    {C_NoText : Addr} (g_NoText : PySem.W.nsIn K mainGlobals "NoText" = some (some (.ref C_NoText)))
    {C_FarError : Addr} (g_FarError : PySem.W.nsIn K mainGlobals "FarError" = some (some (.ref C_FarError)))
    {nm_NoText : _} {q_NoText : _} {N_NoText : _} {bs_NoText : _} {bm_NoText : _} {sn_NoText : _} {sub_NoText : _} {ab_NoText : _} {col_NoText : _} {dd_NoText : _} {k0_NoText : _} {k1_NoText : _} {k2_NoText : _} {k3_NoText : _} {k5_NoText : _} (lk_NoText : K.lookup C_NoText = some (excClassObj nm_NoText q_NoText C_NoText N_NoText bs_NoText bm_NoText true sn_NoText sub_NoText ab_NoText col_NoText dd_NoText k0_NoText k1_NoText k2_NoText k3_NoText k5_NoText "ValueError.__new__"))
    (rv_NoText : PySem.HandSPX.refsVE bm_NoText = true)
    (sa_NoText : PySem.W.findIn K (.ref C_NoText) "__setattr__" = some (some (.builtin "object.__setattr__")))
    (sb_NoText : PySem.W.subIn K (.ref C_NoText) (.type "BaseException") = some true)
    (ty_NoText : PySem.W.typeIn K (.ref C_NoText) = some (.type "type"))
    (kp_NoText : PySem.W.keepIn K (.ref C_NoText) = true)
    {I_NoText : Addr} (fi_NoText : PySem.W.findIn K (.ref C_NoText) "__init__" = some (some (.ref I_NoText)))
    (tf_NoText : PySem.W.typeIn K (.ref I_NoText) = some (.type "function"))
    (n_NoText_line : PySem.W.findIn K (.ref C_NoText) "line" = some none)
    {odi_NoText ani_NoText : Option Addr} {sli_NoText : Array (Option Value)} {oci_NoText kVi_NoText dci_NoText pmi_NoText cdi_NoText cti_NoText : Value} (li_NoText : K.lookup I_NoText = some ⟨oci_NoText, odi_NoText, .func (PySem.W.fnOf "__init__" "NoText.__init__" (defArgs s_init_NoText) (defBody s_init_NoText) (defScope s_init_NoText) .none kVi_NoText dci_NoText pmi_NoText ani_NoText cdi_NoText cti_NoText), sli_NoText⟩)
    (ci_NoText : PySem.W.codeIn K cdi_NoText "NoText.__init__" = true)
    (ki_NoText : PySem.W.keepIn K (.ref I_NoText) = true)
    (sp_FarError : PySem.W.specialIn K (.ref C_FarError) "__getattribute__" = some (some (.builtin "type.__getattribute__")))
    (rd_FarError : PySem.W.readsIn K C_FarError (.type "type") = true)
    (fc_FarError : PySem.W.findCls K (.ref C_FarError) (.type "type") "__init__" = some (.val (.builtin "ValueError.__init__")))
    (sb_FarError : PySem.W.subIn K (.ref C_FarError) (.type "BaseException") = some true)
    (hd_FarError : PySem.W.hasDictIn K C_FarError = true)
    (ty_FarError : PySem.W.typeIn K (.ref C_FarError) = some (.type "type"))
    (su_NoJob_FarError : PySem.W.subIn K (.ref C_NoJob) (.ref C_FarError) = some true)
    (su_NoText_FarError : PySem.W.subIn K (.ref C_NoText) (.ref C_FarError) = some true)
    {C_NoBack : Addr} (g_NoBack : PySem.W.nsIn K mainGlobals "NoBack" = some (some (.ref C_NoBack)))
    {C_NoLine : Addr} (g_NoLine : PySem.W.nsIn K mainGlobals "NoLine" = some (some (.ref C_NoLine)))
    {C_NoOrder : Addr} (g_NoOrder : PySem.W.nsIn K mainGlobals "NoOrder" = some (some (.ref C_NoOrder)))
    {C_NoSize : Addr} (g_NoSize : PySem.W.nsIn K mainGlobals "NoSize" = some (some (.ref C_NoSize)))
    {C_NoTurn : Addr} (g_NoTurn : PySem.W.nsIn K mainGlobals "NoTurn" = some (some (.ref C_NoTurn)))
    {C_NoYard : Addr} (g_NoYard : PySem.W.nsIn K mainGlobals "NoYard" = some (some (.ref C_NoYard)))
    (g_ValueError : PySem.W.nsIn K mainGlobals "ValueError" = some none)
    (ga_NoJob : PySem.W.findIn K (.ref C_NoJob) "__getattribute__" = some (some (.builtin "BaseException.__getattribute__")))
    (gt_NoJob : PySem.W.findIn K (.ref C_NoJob) "__getattr__" = some none)
    (hc_NoJob : PySem.W.findIn K (.ref C_NoJob) "__class__" = some (some (.builtin "object.__class__")))
    (sg_NoJob : PySem.W.specialIn K (.builtin "object.__class__") "__get__" = some (some (.builtin "getset_descriptor.__get__")))
    (tk_NoJob : PySem.W.takesIn K (.builtin "object.__class__") = some true)
    (mr_NoJob : PySem.W.mroIn K C_NoJob (.type "object") = some true)
    (hd_NoJob : PySem.W.hasDictIn K C_NoJob = true)
    (ga_NoText : PySem.W.findIn K (.ref C_NoText) "__getattribute__" = some (some (.builtin "BaseException.__getattribute__")))
    (gt_NoText : PySem.W.findIn K (.ref C_NoText) "__getattr__" = some none)
    (hc_NoText : PySem.W.findIn K (.ref C_NoText) "__class__" = some (some (.builtin "object.__class__")))
    (sg_NoText : PySem.W.specialIn K (.builtin "object.__class__") "__get__" = some (some (.builtin "getset_descriptor.__get__")))
    (tk_NoText : PySem.W.takesIn K (.builtin "object.__class__") = some true)
    (mr_NoText : PySem.W.mroIn K C_NoText (.type "object") = some true)
    (hd_NoText : PySem.W.hasDictIn K C_NoText = true)
    (q_NoJob_NoBack : PySem.W.kitOne K (.ref C_NoJob) (.ref C_NoBack) = some false)
    (q_NoJob_NoJob : PySem.W.kitOne K (.ref C_NoJob) (.ref C_NoJob) = some true)
    (q_NoJob_NoLine : PySem.W.kitOne K (.ref C_NoJob) (.ref C_NoLine) = some false)
    (q_NoJob_NoOrder : PySem.W.kitOne K (.ref C_NoJob) (.ref C_NoOrder) = some false)
    (q_NoJob_NoSize : PySem.W.kitOne K (.ref C_NoJob) (.ref C_NoSize) = some false)
    (q_NoJob_NoText : PySem.W.kitOne K (.ref C_NoJob) (.ref C_NoText) = some false)
    (q_NoJob_NoTurn : PySem.W.kitOne K (.ref C_NoJob) (.ref C_NoTurn) = some false)
    (q_NoJob_NoYard : PySem.W.kitOne K (.ref C_NoJob) (.ref C_NoYard) = some false)
    (q_NoJob_ValueError : PySem.W.kitOne K (.ref C_NoJob) (.type "ValueError") = some true)
    (q_NoText_NoBack : PySem.W.kitOne K (.ref C_NoText) (.ref C_NoBack) = some false)
    (q_NoText_NoJob : PySem.W.kitOne K (.ref C_NoText) (.ref C_NoJob) = some false)
    (q_NoText_NoLine : PySem.W.kitOne K (.ref C_NoText) (.ref C_NoLine) = some false)
    (q_NoText_NoOrder : PySem.W.kitOne K (.ref C_NoText) (.ref C_NoOrder) = some false)
    (q_NoText_NoSize : PySem.W.kitOne K (.ref C_NoText) (.ref C_NoSize) = some false)
    (q_NoText_NoText : PySem.W.kitOne K (.ref C_NoText) (.ref C_NoText) = some true)
    (q_NoText_NoTurn : PySem.W.kitOne K (.ref C_NoText) (.ref C_NoTurn) = some false)
    (q_NoText_NoYard : PySem.W.kitOne K (.ref C_NoText) (.ref C_NoYard) = some false)
    (q_NoText_ValueError : PySem.W.kitOne K (.ref C_NoText) (.type "ValueError") = some true)
    (z_isinstance : PySem.W.nsIn K mainGlobals "isinstance" = some none)
    (z_bool : PySem.W.nsIn K mainGlobals "bool" = some none)
    (z_int : PySem.W.nsIn K mainGlobals "int" = some none)
    (z_str : PySem.W.nsIn K mainGlobals "str" = some none)
    (z_tuple : PySem.W.nsIn K mainGlobals "tuple" = some none)
    (z_len : PySem.W.nsIn K mainGlobals "len" = some none)
    (z_all : PySem.W.nsIn K mainGlobals "all" = some none)
    (z_range : PySem.W.nsIn K mainGlobals "range" = some none)
    (z_sorted : PySem.W.nsIn K mainGlobals "sorted" = some none)
    (z_list : PySem.W.nsIn K mainGlobals "list" = some none)
    (z_abs : PySem.W.nsIn K mainGlobals "abs" = some none)
    (z_min : PySem.W.nsIn K mainGlobals "min" = some none)
    (z_max : PySem.W.nsIn K mainGlobals "max" = some none)
    (z_enumerate : PySem.W.nsIn K mainGlobals "enumerate" = some none)
    (z_repr : PySem.W.nsIn K mainGlobals "repr" = some none) : Lk ⟨P, w, K, mg, base⟩ 8 "law" 1 f_law := by
  have m_isinstance : mg "isinstance" = none := PySem.W.mg_none_of X G z_isinstance
  have m_bool : mg "bool" = none := PySem.W.mg_none_of X G z_bool
  have m_int : mg "int" = none := PySem.W.mg_none_of X G z_int
  have m_str : mg "str" = none := PySem.W.mg_none_of X G z_str
  have m_tuple : mg "tuple" = none := PySem.W.mg_none_of X G z_tuple
  have m_len : mg "len" = none := PySem.W.mg_none_of X G z_len
  have m_all : mg "all" = none := PySem.W.mg_none_of X G z_all
  have m_range : mg "range" = none := PySem.W.mg_none_of X G z_range
  have m_sorted : mg "sorted" = none := PySem.W.mg_none_of X G z_sorted
  have m_list : mg "list" = none := PySem.W.mg_none_of X G z_list
  have m_abs : mg "abs" = none := PySem.W.mg_none_of X G z_abs
  have m_min : mg "min" = none := PySem.W.mg_none_of X G z_min
  have m_max : mg "max" = none := PySem.W.mg_none_of X G z_max
  have m_enumerate : mg "enumerate" = none := PySem.W.mg_none_of X G z_enumerate
  have m_repr : mg "repr" = none := PySem.W.mg_none_of X G z_repr
  have gi_MOST_ROOM_jobs : GInt (⟨P, w, K, mg, base⟩ : Wd) "MOST_ROOM_jobs" 9 := ⟨_, PySem.W.mg_of X G gn_MOST_ROOM_jobs⟩
  have gi_MOST_ROOM_texts : GInt (⟨P, w, K, mg, base⟩ : Wd) "MOST_ROOM_texts" 9 := ⟨_, PySem.W.mg_of X G gn_MOST_ROOM_texts⟩
  have gi_MOST_STEPS_jobs : GInt (⟨P, w, K, mg, base⟩ : Wd) "MOST_STEPS_jobs" 8 := ⟨_, PySem.W.mg_of X G gn_MOST_STEPS_jobs⟩
  have gi_MOST_STEPS_texts : GInt (⟨P, w, K, mg, base⟩ : Wd) "MOST_STEPS_texts" 8 := ⟨_, PySem.W.mg_of X G gn_MOST_STEPS_texts⟩
  have gi_MOST_WORKS : GInt (⟨P, w, K, mg, base⟩ : Wd) "MOST_WORKS" 12 := ⟨_, PySem.W.mg_of X G gn_MOST_WORKS⟩
  have gt_FIGURES : GStr (⟨P, w, K, mg, base⟩ : Wd) "FIGURES" "0123456789" := ⟨_, PySem.W.mg_of X G gn_FIGURES⟩
  have h_NoJob : mg "NoJob" = some (.ref C_NoJob) := PySem.W.mg_of X G g_NoJob
  have rz_NoJob : Rais0 (⟨P, w, K, mg, base⟩ : Wd) "NoJob" := ⟨_, h_NoJob, xe_NoJob, kp_NoJob, sb_NoJob, ty_NoJob⟩
  have h_NoText : mg "NoText" = some (.ref C_NoText) := PySem.W.mg_of X G g_NoText
  have h_FarError : mg "FarError" = some (.ref C_FarError) := PySem.W.mg_of X G g_FarError
  have w_NoText := fun_mk (st := s_init_NoText) li_NoText ci_NoText ki_NoText
  have rz_NoText : RaisI (⟨P, w, K, mg, base⟩ : Wd) 1 "NoText" "line" := ⟨C_NoText, I_NoText, _, ["self", "line"], h_NoText, ⟨⟨_, _, _, _, _, _, _, _, _, _, _, _, _, _, _, lk_NoText, rv_NoText⟩, sa_NoText, sb_NoText, ty_NoText, kp_NoText⟩, fi_NoText, tf_NoText, n_NoText_line, K63.f_init_NoText (T := ⟨P, w, K, mg, base⟩) w_NoText h_FarError sp_FarError rd_FarError fc_FarError, w_NoText.binds fun _ _ _ _ _ _ us hl => match us, hl with | [_, _], _ => rfl⟩
  have tx_FarError := h_FarError
  have ok_FarError : ∀ (cls : Str) (b : Bool) (C : Addr), List.lookup cls [("NoText", true), ("NoJob", true)] = some b → mg cls = some (.ref C) → PySem.W.exmOne K (.ref C) (.ref C_FarError) = some b := (tb_cons (of_mg h_NoText (PySem.W.exm_ref sb_FarError hd_FarError ty_FarError su_NoText_FarError)) (tb_cons (of_mg h_NoJob (PySem.W.exm_ref sb_FarError hd_FarError ty_FarError su_NoJob_FarError)) tb_nil))
  have h_NoBack : mg "NoBack" = some (.ref C_NoBack) := PySem.W.mg_of X G g_NoBack
  have cn_NoBack : ClsN (⟨P, w, K, mg, base⟩ : Wd) "NoBack" (.ref C_NoBack) (.ref C_NoBack) := ⟨.own _, .inl h_NoBack⟩
  have cn_NoJob : ClsN (⟨P, w, K, mg, base⟩ : Wd) "NoJob" (.ref C_NoJob) (.ref C_NoJob) := ⟨.own _, .inl h_NoJob⟩
  have h_NoLine : mg "NoLine" = some (.ref C_NoLine) := PySem.W.mg_of X G g_NoLine
  have cn_NoLine : ClsN (⟨P, w, K, mg, base⟩ : Wd) "NoLine" (.ref C_NoLine) (.ref C_NoLine) := ⟨.own _, .inl h_NoLine⟩
  have h_NoOrder : mg "NoOrder" = some (.ref C_NoOrder) := PySem.W.mg_of X G g_NoOrder
  have cn_NoOrder : ClsN (⟨P, w, K, mg, base⟩ : Wd) "NoOrder" (.ref C_NoOrder) (.ref C_NoOrder) := ⟨.own _, .inl h_NoOrder⟩
  have h_NoSize : mg "NoSize" = some (.ref C_NoSize) := PySem.W.mg_of X G g_NoSize
  have cn_NoSize : ClsN (⟨P, w, K, mg, base⟩ : Wd) "NoSize" (.ref C_NoSize) (.ref C_NoSize) := ⟨.own _, .inl h_NoSize⟩
  have cn_NoText : ClsN (⟨P, w, K, mg, base⟩ : Wd) "NoText" (.ref C_NoText) (.ref C_NoText) := ⟨.own _, .inl h_NoText⟩
  have h_NoTurn : mg "NoTurn" = some (.ref C_NoTurn) := PySem.W.mg_of X G g_NoTurn
  have cn_NoTurn : ClsN (⟨P, w, K, mg, base⟩ : Wd) "NoTurn" (.ref C_NoTurn) (.ref C_NoTurn) := ⟨.own _, .inl h_NoTurn⟩
  have h_NoYard : mg "NoYard" = some (.ref C_NoYard) := PySem.W.mg_of X G g_NoYard
  have cn_NoYard : ClsN (⟨P, w, K, mg, base⟩ : Wd) "NoYard" (.ref C_NoYard) (.ref C_NoYard) := ⟨.own _, .inl h_NoYard⟩
  have h_ValueError : mg "ValueError" = none := PySem.W.mg_none_of X G g_ValueError
  have cn_ValueError : ClsN (⟨P, w, K, mg, base⟩ : Wd) "ValueError" (.ty "ValueError") (.type "ValueError") := ⟨.ty _, .inr ⟨h_ValueError, by decide +kernel, by decide⟩⟩
  have xk_NoJob := of_mg (P := fun C => ExcK K C) h_NoJob ⟨cls_hd hd_NoJob, ga_NoJob, gt_NoJob, sb_NoJob, hc_NoJob, sg_NoJob, tk_NoJob, mr_NoJob, hd_NoJob⟩
  have xk_NoText := of_mg (P := fun C => ExcK K C) h_NoText ⟨cls_hd hd_NoText, ga_NoText, gt_NoText, sb_NoText, hc_NoText, sg_NoText, tk_NoText, mr_NoText, hd_NoText⟩
  have nf_NoText_line := of_mg (P := fun C => PySem.W.findIn K (.ref C) "line" = some none) h_NoText n_NoText_line
  have it_NoJob_NoBack := of_mg (P := fun C => PySem.W.kitOne K (.ref C) (.ref C_NoBack) = some false) h_NoJob q_NoJob_NoBack
  have it_NoJob_NoJob := of_mg (P := fun C => PySem.W.kitOne K (.ref C) (.ref C_NoJob) = some true) h_NoJob q_NoJob_NoJob
  have it_NoJob_NoLine := of_mg (P := fun C => PySem.W.kitOne K (.ref C) (.ref C_NoLine) = some false) h_NoJob q_NoJob_NoLine
  have it_NoJob_NoOrder := of_mg (P := fun C => PySem.W.kitOne K (.ref C) (.ref C_NoOrder) = some false) h_NoJob q_NoJob_NoOrder
  have it_NoJob_NoSize := of_mg (P := fun C => PySem.W.kitOne K (.ref C) (.ref C_NoSize) = some false) h_NoJob q_NoJob_NoSize
  have it_NoJob_NoText := of_mg (P := fun C => PySem.W.kitOne K (.ref C) (.ref C_NoText) = some false) h_NoJob q_NoJob_NoText
  have it_NoJob_NoTurn := of_mg (P := fun C => PySem.W.kitOne K (.ref C) (.ref C_NoTurn) = some false) h_NoJob q_NoJob_NoTurn
  have it_NoJob_NoYard := of_mg (P := fun C => PySem.W.kitOne K (.ref C) (.ref C_NoYard) = some false) h_NoJob q_NoJob_NoYard
  have it_NoJob_ValueError := of_mg (P := fun C => PySem.W.kitOne K (.ref C) (.type "ValueError") = some true) h_NoJob q_NoJob_ValueError
  have it_NoText_NoBack := of_mg (P := fun C => PySem.W.kitOne K (.ref C) (.ref C_NoBack) = some false) h_NoText q_NoText_NoBack
  have it_NoText_NoJob := of_mg (P := fun C => PySem.W.kitOne K (.ref C) (.ref C_NoJob) = some false) h_NoText q_NoText_NoJob
  have it_NoText_NoLine := of_mg (P := fun C => PySem.W.kitOne K (.ref C) (.ref C_NoLine) = some false) h_NoText q_NoText_NoLine
  have it_NoText_NoOrder := of_mg (P := fun C => PySem.W.kitOne K (.ref C) (.ref C_NoOrder) = some false) h_NoText q_NoText_NoOrder
  have it_NoText_NoSize := of_mg (P := fun C => PySem.W.kitOne K (.ref C) (.ref C_NoSize) = some false) h_NoText q_NoText_NoSize
  have it_NoText_NoText := of_mg (P := fun C => PySem.W.kitOne K (.ref C) (.ref C_NoText) = some true) h_NoText q_NoText_NoText
  have it_NoText_NoTurn := of_mg (P := fun C => PySem.W.kitOne K (.ref C) (.ref C_NoTurn) = some false) h_NoText q_NoText_NoTurn
  have it_NoText_NoYard := of_mg (P := fun C => PySem.W.kitOne K (.ref C) (.ref C_NoYard) = some false) h_NoText q_NoText_NoYard
  have it_NoText_ValueError := of_mg (P := fun C => PySem.W.kitOne K (.ref C) (.type "ValueError") = some true) h_NoText q_NoText_ValueError
  have r_is_whole : Lk ⟨P, w, K, mg, base⟩ 1 "is_whole" 1 K63.f_is_whole := K63.k_is_whole (T := ⟨P, w, K, mg, base⟩) m_isinstance m_bool m_int (fun_mk (st := s_is_whole) l_is_whole c_is_whole k_is_whole) (PySem.W.mg_of X G a_is_whole)
  have r_is_step : Lk ⟨P, w, K, mg, base⟩ 2 "is_step" 1 K63.f_is_step := K63.k_is_step (T := ⟨P, w, K, mg, base⟩) r_is_whole m_isinstance m_str m_tuple m_len (fun_mk (st := s_is_step) l_is_step c_is_step k_is_step) (PySem.W.mg_of X G a_is_step)
  have r_is_work : Lk ⟨P, w, K, mg, base⟩ 3 "is_work" 1 K63.f_is_work := K63.k_is_work (T := ⟨P, w, K, mg, base⟩) r_is_whole r_is_step m_len m_isinstance m_tuple m_all gi_MOST_ROOM_jobs gi_MOST_STEPS_jobs (fun_mk (st := s_is_work) l_is_work c_is_work k_is_work) (PySem.W.mg_of X G a_is_work)
  have r_sent_by : LkT ⟨P, w, K, mg, base⟩ 1 "sent_by" 1 1 K63.f_sent_by := K63.k_sent_by (T := ⟨P, w, K, mg, base⟩) (fun_mk (st := s_sent_by) l_sent_by c_sent_by k_sent_by) (PySem.W.mg_of X G a_sent_by)
  have r_is_job : Lk ⟨P, w, K, mg, base⟩ 4 "is_job" 1 K63.f_is_job := K63.k_is_job (T := ⟨P, w, K, mg, base⟩) r_is_work r_sent_by m_len m_isinstance m_tuple m_all m_range m_sorted m_list gi_MOST_WORKS (fun_mk (st := s_is_job) l_is_job c_is_job k_is_job) (PySem.W.mg_of X G a_is_job)
  have r_number_of : Lk ⟨P, w, K, mg, base⟩ 1 "number_of" 1 K63.f_number_of := K63.k_number_of (T := ⟨P, w, K, mg, base⟩) m_all m_len m_int gt_FIGURES (fun_mk (st := s_number_of) l_number_of c_number_of k_number_of) (PySem.W.mg_of X G a_number_of)
  have r_step_of : Lk ⟨P, w, K, mg, base⟩ 2 "step_of" 1 K63.f_step_of := K63.k_step_of (T := ⟨P, w, K, mg, base⟩) r_number_of m_len (fun_mk (st := s_step_of) l_step_of c_step_of k_step_of) (PySem.W.mg_of X G a_step_of)
  have r_work_of : Lk ⟨P, w, K, mg, base⟩ 3 "work_of" 1 K63.f_work_of := K63.k_work_of (T := ⟨P, w, K, mg, base⟩) r_number_of r_step_of m_len m_tuple gi_MOST_ROOM_texts gi_MOST_STEPS_texts (fun_mk (st := s_work_of) l_work_of c_work_of k_work_of) (PySem.W.mg_of X G a_work_of)
  have r_read_job : Lk ⟨P, w, K, mg, base⟩ 5 "read_job" 1 K63.f_read_job := K63.k_read_job (T := ⟨P, w, K, mg, base⟩) r_work_of r_is_job m_len m_range m_tuple rz_NoJob rz_NoText (fun_mk (st := s_read_job) l_read_job c_read_job k_read_job) (PySem.W.mg_of X G a_read_job)
  have r_law_mix : Lk ⟨P, w, K, mg, base⟩ 1 "_law_mix" 2 K63.f_law_mix := K63.k_law_mix (T := ⟨P, w, K, mg, base⟩) (fun_mk (st := s_law_mix) l_law_mix c_law_mix k_law_mix) (PySem.W.mg_of X G a_law_mix)
  have r_law_digits : Lk ⟨P, w, K, mg, base⟩ 2 "_law_digits" 2 K63.f_law_digits := K63.k_law_digits (T := ⟨P, w, K, mg, base⟩) r_law_mix m_abs m_range (fun_mk (st := s_law_digits) l_law_digits c_law_digits k_law_digits) (PySem.W.mg_of X G a_law_digits)
  have r_law_at : Lk ⟨P, w, K, mg, base⟩ 1 "_law_at" 2 K63.f_law_at := K63.k_law_at (T := ⟨P, w, K, mg, base⟩) m_len (fun_mk (st := s_law_at) l_law_at c_law_at k_law_at) (PySem.W.mg_of X G a_law_at)
  have r_law_job : Lk ⟨P, w, K, mg, base⟩ 3 "_law_job" 2 K63.f_law_job := K63.k_law_job (T := ⟨P, w, K, mg, base⟩) r_law_digits r_law_at m_min m_max m_range m_len m_tuple (fun_mk (st := s_law_job) l_law_job c_law_job k_law_job) (PySem.W.mg_of X G a_law_job)
  have r_law_text : Lk ⟨P, w, K, mg, base⟩ 1 "_law_text" 1 K63.f_law_text := K63.k_law_text (T := ⟨P, w, K, mg, base⟩) m_str (fun_mk (st := s_law_text) l_law_text c_law_text k_law_text) (PySem.W.mg_of X G a_law_text)
  have r_law_number : Lk ⟨P, w, K, mg, base⟩ 1 "_law_number" 1 K63.f_law_number := K63.k_law_number (T := ⟨P, w, K, mg, base⟩) m_len m_int (fun_mk (st := s_law_number) l_law_number c_law_number k_law_number) (PySem.W.mg_of X G a_law_number)
  have r_law_work : Lk ⟨P, w, K, mg, base⟩ 2 "_law_work" 1 K63.f_law_work := K63.k_law_work (T := ⟨P, w, K, mg, base⟩) r_law_number m_len m_tuple (fun_mk (st := s_law_work) l_law_work c_law_work k_law_work) (PySem.W.mg_of X G a_law_work)
  have r_law_read : Lk ⟨P, w, K, mg, base⟩ 3 "_law_read" 1 K63.f_law_read := K63.k_law_read (T := ⟨P, w, K, mg, base⟩) r_law_work m_enumerate m_len m_tuple (fun_mk (st := s_law_read) l_law_read c_law_read k_law_read) (PySem.W.mg_of X G a_law_read)
  have r_law_told : Lk ⟨P, w, K, mg, base⟩ 6 "_law_told" 1 K63.f_law_told := K63.k_law_told (T := ⟨P, w, K, mg, base⟩) r_read_job m_isinstance tx_FarError ok_FarError cn_NoBack cn_NoJob cn_NoLine cn_NoOrder cn_NoSize cn_NoText cn_NoTurn cn_NoYard cn_ValueError xk_NoJob xk_NoText nf_NoText_line it_NoJob_NoBack it_NoJob_NoJob it_NoJob_NoLine it_NoJob_NoOrder it_NoJob_NoSize it_NoJob_NoText it_NoJob_NoTurn it_NoJob_NoYard it_NoJob_ValueError it_NoText_NoBack it_NoText_NoJob it_NoText_NoLine it_NoText_NoOrder it_NoText_NoSize it_NoText_NoText it_NoText_NoTurn it_NoText_NoYard it_NoText_ValueError (fun_mk (st := s_law_told) l_law_told c_law_told k_law_told) (PySem.W.mg_of X G a_law_told)
  have r_law_right : Lk ⟨P, w, K, mg, base⟩ 7 "_law_right" 1 K63.f_law_right := K63.k_law_right (T := ⟨P, w, K, mg, base⟩) r_law_read r_is_job r_law_told m_repr (fun_mk (st := s_law_right) l_law_right c_law_right k_law_right) (PySem.W.mg_of X G a_law_right)
  have r_law_bent : Lk ⟨P, w, K, mg, base⟩ 1 "_law_bent" 2 K63.f_law_bent := K63.k_law_bent (T := ⟨P, w, K, mg, base⟩) m_len (fun_mk (st := s_law_bent) l_law_bent c_law_bent k_law_bent) (PySem.W.mg_of X G a_law_bent)
  have r_law_bent_rows : Lk ⟨P, w, K, mg, base⟩ 1 "_law_bent_rows" 2 K63.f_law_bent_rows := K63.k_law_bent_rows (T := ⟨P, w, K, mg, base⟩) m_len (fun_mk (st := s_law_bent_rows) l_law_bent_rows c_law_bent_rows k_law_bent_rows) (PySem.W.mg_of X G a_law_bent_rows)
  have r_law : Lk ⟨P, w, K, mg, base⟩ 8 "law" 1 K63.f_law := K63.k_law (T := ⟨P, w, K, mg, base⟩) r_law_text r_law_job r_law_digits r_law_bent_rows r_law_right r_law_bent r_law_at m_list m_enumerate m_abs rz_NoText xk_NoText nf_NoText_line (fun_mk (st := s_law) l_law c_law k_law) (PySem.W.mg_of X G a_law)
  exact r_law
end K63

namespace Bv
open PySem PySem.Spec L2 PyProof.Rows
/-! ### how meanings are read: rows for simp -/
/-- a sequence of statements, the first one's end at hand -/
def Res.sq (r : Res) (g : Env' → Res) : Res := match r with | .nx ρ => g ρ | r => r
@[simp] theorem sq_nx (ρ : Env') (g : Env' → Res) : Res.sq (.nx ρ) g = g ρ := rfl
@[simp] theorem sq_rt (d : D) (g : Env' → Res) : Res.sq (.rt d) g = .rt d := rfl
@[simp] theorem sq_un (g : Env' → Res) : Res.sq .un g = .un := rfl
@[simp] theorem sq_xc (x : Xc) (g : Env' → Res) : Res.sq (.xc x) g = .xc x := rfl
@[simp] theorem sq_bk (ρ : Env') (g : Env' → Res) : Res.sq (.bk ρ) g = .bk ρ := rfl
@[simp] theorem sq_ct (ρ : Env') (g : Env' → Res) : Res.sq (.ct ρ) g = .ct ρ := rfl
@[simp] theorem sq_ite (c : Prop) [Decidable c] (a b : Res) (g : Env' → Res) : Res.sq (if c then a else b) g = if c then a.sq g else b.sq g := by split <;> rfl
@[simp] theorem sseq_def (f g : Env' → Res) (ρ : Env') : sseq f g ρ = (f ρ).sq g := rfl
@[simp] theorem snext_def (ρ : Env') : snext ρ = .nx ρ := rfl
@[simp] theorem fin_rt (d : D) : Res.fin (.rt d) = .ok d := rfl
@[simp] theorem fin_nx (ρ : Env') : Res.fin (.nx ρ) = .ok .none := rfl
@[simp] theorem fin_xc (x : Xc) : Res.fin (.xc x) = .xc x := rfl
@[simp] theorem fin_un : Res.fin .un = .un := rfl
@[simp] theorem fin_ite (c : Prop) [Decidable c] (a b : Res) : Res.fin (if c then a else b) = if c then a.fin else b.fin := by split <;> rfl
@[simp] theorem st_ite {A : Type} (c : Prop) [Decidable c] (a b : Rv A) (f : A → Res) : Rv.st (if c then a else b) f = if c then a.st f else b.st f := by split <;> rfl
@[simp] theorem bind_ite {A B : Type} (c : Prop) [Decidable c] (a b : Rv A) (f : A → Rv B) : Rv.bind (if c then a else b) f = if c then a.bind f else b.bind f := by split <;> rfl
@[simp] theorem asg_def (i : Nat) (M : List Nat) (f : Vw → Rv D) (ρ : Env') : asg i M f ρ = (f (vw M ρ)).st fun d => .nx (if imm d = true then ρ.set i (.fz d) else (frz M ρ).set i (.fz d)) := rfl
@[simp] theorem asgF_def (i : Nat) (M : List Nat) (f : Vw → Rv (List D)) (ρ : Env') : asgF i M f ρ = (f (vw M ρ)).st fun ds => if i < ρ.length then .nx (if immA ds = true then ρ.set i (.ow 1 (.list ds)) else (frz M ρ).set i (.ow 1 (.list ds))) else .un := rfl
@[simp] theorem asgC_def (i n : Nat) (M : List Nat) (f : Vw → Rv (List D)) (ρ : Env') : asgC i n M f ρ = (f (vw M ρ)).st fun ds => if i < ρ.length then .nx (if immA ds = true then ρ.set i (.ow (n + 1) (.list ds)) else (frz M ρ).set i (.ow (n + 1) (.list ds))) else .un := rfl
@[simp] theorem asgX_def (i n : Nat) (M : List Nat) (f : Vw → Rv D) (ρ : Env') : asgX i n M f ρ = (f (vw M ρ)).st fun d => if i < ρ.length then .nx ((frz M ρ).set i (.ow n d)) else .un := rfl
@[simp] theorem ret_def (M : List Nat) (f : Vw → Rv D) (ρ : Env') : Bv.ret M f ρ = (f (vw M ρ)).st fun d => .rt d := rfl
@[simp] theorem retI_def (M : List Nat) (f : Vw → Rv D) (ρ : Env') : retI M f ρ = (f (vw M ρ)).st fun d => if imm d = true then .rt d else .un := rfl
@[simp] theorem drp_def (M : List Nat) (f : Vw → Rv D) (ρ : Env') : drp M f ρ = (f (vw M ρ)).st fun _ => .nx ρ := rfl
@[simp] theorem sif_def (M : List Nat) (c : Vw → Rv Bool) (f g : Env' → Res) (ρ : Env') : sif M c f g ρ = (c (vw M ρ)).st fun b => if b = true then f ρ else g ρ := rfl
@[simp] theorem setAll_nil (ρ : Env') : setAll [] [] ρ = some ρ := rfl
@[simp] theorem setAll_cons (i : Nat) (is : List Nat) (d : D) (ds : List D) (ρ : Env') : setAll (i :: is) (d :: ds) ρ = setAll is ds (ρ.set i (.fz d)) := rfl
theorem untup_def (is : List Nat) (M : List Nat) (f : Vw → Rv D) (ρ : Env') : untup is M f ρ = (f (vw M ρ)).st fun d => match d with
  | .tuple ds => match setAll is ds (if immA ds = true then ρ else frz M ρ) with | some ρ' => .nx ρ' | none => .un
  | _ => .un := rfl
@[simp] theorem frz_nil0 (ρ : Env') : frz [] ρ = ρ := by
  have : ∀ (ρ : Env') (k : Nat), frzF [] k ρ = ρ := by
    intro ρ
    induction ρ with
    | nil => intro k; rfl
    | cons s r ih => intro k; cases s <;> simp [frzF, frz1, ih]
  exact this ρ 0
@[simp] theorem frz_def (M : List Nat) (s : Sl) (ρ : Env') : frz M (s :: ρ) = frzF M 0 (s :: ρ) := rfl
@[simp] theorem frzF_nil (M : List Nat) (k : Nat) : frzF M k [] = [] := rfl
@[simp] theorem frzF_cons (M : List Nat) (k : Nat) (s : Sl) (r : Env') : frzF M k (s :: r) = frz1 M k s :: frzF M (k + 1) r := rfl
@[simp] theorem frz1_nil (k : Nat) (s : Sl) : frz1 [] k s = s := by cases s <;> simp [frz1]
@[simp] theorem frz1_un (M : List Nat) (k : Nat) : frz1 M k .un = .un := rfl
@[simp] theorem frz1_fz (M : List Nat) (k : Nat) (d : D) : frz1 M k (.fz d) = .fz d := rfl
@[simp] theorem frz1_owd (M : List Nat) (k n : Nat) (d : D) : frz1 M k (.ow n d) = if M.contains k = true then .fz d else .ow n d := rfl
@[simp] theorem vw_cons (M : List Nat) (s : Sl) (r : Env') : vw M (s :: r) = vwF M 0 (s :: r) := rfl
@[simp] theorem vwF_nil (M : List Nat) (k : Nat) : vwF M k [] = [] := rfl
@[simp] theorem vwF_cons (M : List Nat) (k : Nat) (s : Sl) (r : Env') : vwF M k (s :: r) = vw1 M k s :: vwF M (k + 1) r := rfl
@[simp] theorem vw1_un (M : List Nat) (k : Nat) : vw1 M k .un = none := rfl
@[simp] theorem vw1_fz (M : List Nat) (k : Nat) (d : D) : vw1 M k (.fz d) = some d := rfl
@[simp] theorem vw1_owd (M : List Nat) (k n : Nat) (d : D) : vw1 M k (.ow n d) = if M.contains k = true then some d else none := rfl
@[simp] theorem entry_def (n : Nat) (ds : List D) : entry n ds = ds.map .fz ++ List.replicate n .un := rfl
@[simp] theorem cst_def (d : D) (η : Vw) : cst d η = .ok d := rfl
def oget : Option (Option D) → Rv D
  | some (some d) => .ok d
  | _ => .un
@[simp] theorem oget_some (d : D) : oget (some (some d)) = .ok d := rfl
@[simp] theorem oget_none : oget (some none) = .un := rfl
@[simp] theorem var_def (i : Nat) (η : Vw) : var i η = oget η[i]? := by unfold var oget; rfl
@[simp] theorem bi2_def (g : D → D → Rv D) (fa fb : Vw → Rv D) (η : Vw) : bi2 g fa fb η = (fa η).bind fun a => (fb η).bind fun b => g a b := rfl
@[simp] theorem una_def (g : D → Rv D) (fa : Vw → Rv D) (η : Vw) : una g fa η = (fa η).bind g := rfl
def bOf : D → Rv Bool
  | .bool b => .ok b
  | _ => .un
@[simp] theorem bOf_b (b : Bool) : bOf (.bool b) = .ok b := rfl
@[simp] theorem asB_def (f : Vw → Rv D) (η : Vw) : asB f η = (f η).bind bOf := by
  unfold asB
  congr 1
@[simp] theorem tand_def (f g : Vw → Rv Bool) (η : Vw) : tand f g η = (f η).bind fun b => if b = true then g η else .ok false := rfl
@[simp] theorem tor_def (f g : Vw → Rv Bool) (η : Vw) : tor f g η = (f η).bind fun b => if b = true then .ok true else g η := rfl
@[simp] theorem tnot_def (f : Vw → Rv Bool) (η : Vw) : tnot f η = (f η).bind fun b => .ok (!b) := rfl
@[simp] theorem vand_def (f g : Vw → Rv D) (η : Vw) : vand f g η = (asB f η).bind fun b => if b = true then g η else .ok (.bool false) := rfl
@[simp] theorem vor_def (f g : Vw → Rv D) (η : Vw) : vor f g η = (asB f η).bind fun b => if b = true then .ok (.bool true) else g η := rfl
@[simp] theorem vnot_def (f : Vw → Rv D) (η : Vw) : vnot f η = (asB f η).bind fun b => .ok (.bool !b) := rfl
@[simp] theorem ifx_def (c : Vw → Rv Bool) (f g : Vw → Rv D) (η : Vw) : ifx c f g η = (c η).bind fun b => if b = true then f η else g η := rfl
@[simp] theorem anil_def (η : Vw) : anil η = .ok [] := rfl
@[simp] theorem acons_def (f : Vw → Rv D) (g : Vw → Rv (List D)) (η : Vw) : acons f g η = (f η).bind fun a => (g η).bind fun b => .ok (a :: b) := rfl
@[simp] theorem tupD_def (f : Vw → Rv (List D)) (η : Vw) : tupD f η = (f η).bind fun ds => if ds.length ≤ 16000000 then .ok (.tuple ds) else .un := rfl
@[simp] theorem lstF_def (f : Vw → Rv (List D)) (η : Vw) : lstF f η = (f η).bind fun ds => if ds.length ≤ 16000000 then .ok ds else .un := rfl
@[simp] theorem lstD_def (f : Vw → Rv (List D)) (η : Vw) : lstD f η = (f η).bind fun ds => .ok (.list ds) := rfl
@[simp] theorem cal_def (g : List D → Rv D) (fa : Vw → Rv (List D)) (η : Vw) : cal g fa η = (fa η).bind g := rfl
@[simp] theorem calF_def (g : List D → Rv (List D)) (fa : Vw → Rv (List D)) (η : Vw) : calF g fa η = (fa η).bind g := rfl
@[simp] theorem immF_def (f : Vw → Rv D) (η : Vw) : immF f η = (f η).bind fun d => if imm d = true then .ok d else .un := rfl
@[simp] theorem immL_def (f : Vw → Rv (List D)) (η : Vw) : immL f η = (f η).bind fun ds => if immA ds = true then .ok ds else .un := rfl
@[simp] theorem onone_def (η : Vw) : onone η = .ok none := rfl
def iOf : D → Rv (Option Int)
  | .int i => .ok (some i)
  | _ => .un
@[simp] theorem iOf_i (i : Int) : iOf (.int i) = .ok (some i) := rfl
@[simp] theorem osome_def (f : Vw → Rv D) (η : Vw) : osome f η = (f η).bind iOf := by
  unfold osome
  congr 1
@[simp] theorem slc_def (f : Vw → Rv D) (l u : Vw → Rv (Option Int)) (η : Vw) : slc f l u η = (f η).bind fun d => (l η).bind fun lo => (u η).bind fun hi => dSl d lo hi := rfl
@[simp] theorem isi_def (T : String) (f : Vw → Rv D) (η : Vw) : isi T f η = (f η).bind (isiD T) := rfl
@[simp] theorem srcE_def (f : Vw → Rv D) (η : Vw) : srcE f η = (f η).bind fun d => match items d with | some xs => .ok xs | none => .un := rfl
@[simp] theorem srcR_def (rg : List D → Rv (List D)) (f : Vw → Rv (List D)) (η : Vw) : srcR rg f η = (f η).bind rg := rfl
@[simp] theorem sfor_def (M : List Nat) (b : D → Env' → Option Env') (f : Vw → Rv D) (g : Env' → Res) (ρ : Env') : sfor M b f g ρ = (f (vw M ρ)).st fun d => match items d with
  | some xs => forL b g xs (if imm d = true then ρ else frz M ρ)
  | none => .un := rfl
@[simp] theorem sforR_def (rg : List D → Rv (List D)) (M : List Nat) (b : D → Env' → Option Env') (f : Vw → Rv (List D)) (g : Env' → Res) (ρ : Env') : sforR rg M b f g ρ = ((f (vw M ρ)).bind rg).st fun xs => forL b g xs ρ := rfl
@[simp] theorem items_l (xs : List D) : items (.list xs) = some xs := rfl
@[simp] theorem items_t (xs : List D) : items (.tuple xs) = some xs := rfl
@[simp] theorem bName_def (i : Nat) (d : D) (ρ : Env') : bName i d ρ = some (ρ.set i (.fz d)) := rfl
@[simp] theorem vName_def (i : Nat) (d : D) (η : Vw) : vName i d η = some (η.set i (some d)) := rfl
@[simp] theorem wipeV_nil (η : Vw) : wipeV [] η = η := rfl
@[simp] theorem wipeV_cons (v : Nat) (vs : List Nat) (η : Vw) : wipeV (v :: vs) η = (wipeV vs η).set v none := rfl
@[simp] theorem cmp_def (vs : List Nat) (b : D → Vw → Option Vw) (ft : Vw → Rv Bool) (fe : Vw → Rv D) (src : Vw → Rv (List D)) (η : Vw) : cmp vs b ft fe src η = (src η).bind fun xs => if xs.length ≤ 16000000 then compL b ft fe xs (wipeV vs η) else .un := rfl
@[simp] theorem yes_def (η : Vw) : yes η = .ok true := rfl
@[simp] theorem imm_non : imm .none = true := rfl
@[simp] theorem imm_int (i : Int) : imm (.int i) = true := rfl
@[simp] theorem imm_str (i : Str) : imm (.str i) = true := rfl
@[simp] theorem imm_bool (i : Bool) : imm (.bool i) = true := rfl
@[simp] theorem imm_list (i : List D) : imm (.list i) = false := rfl
@[simp] theorem imm_tup (i : List D) : imm (.tuple i) = immA i := rfl
@[simp] theorem immA_nil : immA [] = true := rfl
@[simp] theorem immA_cons (d : D) (i : List D) : immA (d :: i) = (imm d && immA i) := rfl
@[simp] theorem isN_non : isN .none = true := rfl
@[simp] theorem isN_tup (x : List D) : isN (.tuple x) = false := rfl
@[simp] theorem isN_list (x : List D) : isN (.list x) = false := rfl
@[simp] theorem isN_int (x : Int) : isN (.int x) = false := rfl
@[simp] theorem isN_str (x : Str) : isN (.str x) = false := rfl
@[simp] theorem dLt_ii (i j : Int) : dLt (.int i) (.int j) = .ok (.bool (decide (i < j))) := rfl
@[simp] theorem dLe_ii (i j : Int) : dLe (.int i) (.int j) = .ok (.bool (decide (i ≤ j))) := rfl
@[simp] theorem dGt_ii (i j : Int) : dGt (.int i) (.int j) = .ok (.bool (decide (j < i))) := rfl
@[simp] theorem dGe_ii (i j : Int) : dGe (.int i) (.int j) = .ok (.bool (decide (j ≤ i))) := rfl
def ixD (xs : List D) (i : Int) : Rv D := match atI xs i with | some d => .ok d | none => .un
@[simp] theorem dIx_lD (xs : List D) (i : Int) : dIx (.list xs) (.int i) = ixD xs i := rfl
@[simp] theorem dIx_tD (xs : List D) (i : Int) : dIx (.tuple xs) (.int i) = ixD xs i := rfl
@[simp] theorem ixD0 (x : D) (xs : List D) : ixD (x :: xs) 0 = .ok x := by
  unfold ixD atI ixN
  simp
theorem ixD_nat {xs : List D} {i : Int} {x : D} (h0 : 0 ≤ i) (h : xs[i.toNat]? = some x) : ixD xs i = .ok x := by
  have h1 := (List.getElem?_eq_some_iff.mp h).1
  unfold ixD atI ixN
  rw [if_pos h0, if_pos (by omega)]
  simp [h]
@[simp] theorem ixD1 (x0 x1 : D) (xs : List D) : ixD (x0 :: x1 :: xs) 1 = .ok x1 := ixD_nat (by decide) rfl
@[simp] theorem ixD2 (x0 x1 x2 : D) (xs : List D) : ixD (x0 :: x1 :: x2 :: xs) 2 = .ok x2 := ixD_nat (by decide) rfl
@[simp] theorem ixD3 (x0 x1 x2 x3 : D) (xs : List D) : ixD (x0 :: x1 :: x2 :: x3 :: xs) 3 = .ok x3 := ixD_nat (by decide) rfl
@[simp] theorem ixD4 (x0 x1 x2 x3 x4 : D) (xs : List D) : ixD (x0 :: x1 :: x2 :: x3 :: x4 :: xs) 4 = .ok x4 := ixD_nat (by decide) rfl
@[simp] theorem ixD5 (x0 x1 x2 x3 x4 x5 : D) (xs : List D) : ixD (x0 :: x1 :: x2 :: x3 :: x4 :: x5 :: xs) 5 = .ok x5 := ixD_nat (by decide) rfl
@[simp] theorem ixD6 (x0 x1 x2 x3 x4 x5 x6 : D) (xs : List D) : ixD (x0 :: x1 :: x2 :: x3 :: x4 :: x5 :: x6 :: xs) 6 = .ok x6 := ixD_nat (by decide) rfl
@[simp] theorem ixD7 (x0 x1 x2 x3 x4 x5 x6 x7 : D) (xs : List D) : ixD (x0 :: x1 :: x2 :: x3 :: x4 :: x5 :: x6 :: x7 :: xs) 7 = .ok x7 := ixD_nat (by decide) rfl
theorem app_at {j n : Nat} {M : List Nat} {f : Vw → Rv D} {ρ : Env'} {xs : List D} (h : ρ[j]? = some (.ow (n + 1) (.list xs))) : app j M f ρ = (f (vw M ρ)).st fun d => if xs.length < 16000000 ∧ (imm d = true ∨ (n = 0 ∧ M.contains j = false)) then .nx ((if imm d = true then ρ else frz M ρ).set j (.ow (n + 1) (.list (xs ++ [d])))) else .un := by
  unfold app
  rw [h]
theorem dDiv_ok {i j : Int} (h : 0 < j) (h2 : j < 1073741824) : dDiv (.int i) (.int j) = .ok (.int (i / j)) := by
  rw [dDiv_ii]
  exact if_pos (decide_eq_true ⟨h, h2⟩)
theorem dMod_ok {i j : Int} (h : 0 < j) : dMod (.int i) (.int j) = .ok (.int (i % j)) := by
  rw [dMod_ii]
  exact if_pos (decide_eq_true h)
theorem rngOk_of {i : Int} (h : -1000000000 ≤ i) (h2 : i ≤ 1000000000) : rngOk i = true := by
  unfold rngOk
  exact decide_eq_true (by omega)
theorem dMul_ok {i j : Int} (h : -(2 ^ 64) < i) (h2 : i < 2 ^ 64) : dMul (.int i) (.int j) = .ok (.int (i * j)) := by
  rw [dMul_ii]
  exact if_pos (decide_eq_true (.inl ⟨h, h2⟩))
theorem dPow_ok {i j : Int} (h : i.natAbs < 2 ^ 64) (h0 : 0 ≤ j) (h1 : j ≤ 1000000) : dPow (.int i) (.int j) = .ok (.int (i ^ j.toNat)) := by
  rw [dPow_ii]
  exact if_pos (decide_eq_true ⟨h0, h1, h⟩)
/-- one of a row, by a number in its bounds -/
theorem pick {xs : List D} {i : Int} (Q : D → Prop) (h0 : 0 ≤ i) (h1 : i < xs.length) (h : ∀ d ∈ xs, Q d) : ∃ d, ixD xs i = .ok d ∧ Q d := by
  have hl : i.toNat < xs.length := by omega
  exact ⟨xs[i.toNat], ixD_nat h0 (List.getElem?_eq_getElem hl), h _ (List.getElem_mem hl)⟩
/-! comprehensions -/
theorem compL_filter {A : Type} {b : D → Vw → Option Vw} {ft : Vw → Rv Bool} {fe : Vw → Rv D} {η : Vw} {g h : A → D} {p : A → Bool} : ∀ {xs : List A}, (∀ x ∈ xs, ∃ η', b (g x) η = some η' ∧ ft η' = .ok (p x) ∧ (p x = true → fe η' = .ok (h x))) → compL b ft fe (xs.map g) η = .ok ((xs.filter p).map h)
  | [], _ => rfl
  | x :: xs, k => by
    obtain ⟨η', e1, e2, e3⟩ := k x List.mem_cons_self
    have ih := compL_filter (h := h) (p := p) (xs := xs) fun y hy => k y (List.mem_cons_of_mem _ hy)
    rw [List.map_cons]
    unfold compL
    simp only [e1, e2, Rv.nox_ok, Rv.bind_ok]
    cases hp : p x with
    | false => rw [if_neg (by simp), ih, List.filter_cons_of_neg (by simp [hp])]
    | true =>
      rw [if_pos rfl, e3 hp, ih, List.filter_cons_of_pos hp]
      rfl
theorem compL_map {A : Type} {b : D → Vw → Option Vw} {ft : Vw → Rv Bool} {fe : Vw → Rv D} {η : Vw} {g h : A → D} {xs : List A} (k : ∀ x ∈ xs, ∃ η', b (g x) η = some η' ∧ ft η' = .ok true ∧ fe η' = .ok (h x)) : compL b ft fe (xs.map g) η = .ok (xs.map h) := by
  have := compL_filter (b := b) (ft := ft) (fe := fe) (η := η) (g := g) (h := h) (p := fun _ => true) (xs := xs) fun x hx => let ⟨η', e1, e2, e3⟩ := k x hx; ⟨η', e1, e2, fun _ => e3⟩
  rwa [List.filter_eq_self.mpr (fun _ _ => rfl)] at this
@[simp] theorem immA_ints (ns : List Int) : immA (ns.map .int) = true := by
  induction ns with
  | nil => rfl
  | cons n ns ih => simp [ih]
theorem immA_of {xs : List D} (h : ∀ d ∈ xs, imm d = true) : immA xs = true := by
  induction xs with
  | nil => rfl
  | cons x xs ih => simp [h x List.mem_cons_self, ih fun d hd => h d (List.mem_cons_of_mem _ hd)]
/-! lists of whole numbers beside the empty one -/
theorem shp_ints (ns : List Int) : shp (.list (ns.map .int)) = true := by
  have h1 : ∀ ns : List Int, nodictA (ns.map .int) = true := fun ns => by
    induction ns with
    | nil => rfl
    | cons n ns ih => simp [nodictA, nodict, ih]
  have h2 : ∀ ns : List Int, PyData.canLayAll0 (ns.map .int) = true := fun ns => by
    induction ns with
    | nil => rfl
    | cons n ns ih => simp [PyData.canLayAll0, PyData.canLay0, ih]
  have h3 : ∀ ns : List Int, PyData.depthAll (ns.map .int) = 0 := fun ns => by
    induction ns with
    | nil => rfl
    | cons n ns ih => simp [PyData.depthAll, PyData.depth, ih]
  simp [shp, nodict, h1, SeqAt.shaped, PyData.canLay0, h2, PyData.depth, h3]
theorem dEq_nil (ns : List Int) : dEq (.list (ns.map .int)) (.list []) = .ok (.bool ns.isEmpty) := by
  have e : dEq (.list (ns.map .int)) (.list []) = if shp (.list (ns.map .int)) = true ∧ shp (.list []) = true then .ok (.bool (PyData.eqv (.list (ns.map .int)) (.list []))) else .un := rfl
  rw [e, if_pos ⟨shp_ints ns, shp_ints []⟩]
  cases ns <;> simp [PyData.eqv, PyData.eqvAll]
/-! loops -/
@[simp] theorem forL_nil (b : D → Env' → Option Env') (g : Env' → Res) (ρ : Env') : forL b g [] ρ = .nx ρ := rfl
/-- a loop whose turns keep P, or end the def with what R tells -/
theorem forL_inv {b : D → Env' → Option Env'} {g : Env' → Res} (P : Env' → Prop) (R : D → Prop) : ∀ {xs : List D} {ρ : Env'}, P ρ → (∀ d ∈ xs, ∀ ρ, P ρ → ∃ ρ1, b d ρ = some ρ1 ∧ ((∃ ρ2, (g ρ1 = .nx ρ2 ∨ g ρ1 = .ct ρ2) ∧ P ρ2) ∨ ∃ r, g ρ1 = .rt r ∧ R r)) →
    (∃ ρ', forL b g xs ρ = .nx ρ' ∧ P ρ') ∨ ∃ r, forL b g xs ρ = .rt r ∧ R r
  | [], ρ, h, _ => .inl ⟨ρ, rfl, h⟩
  | d :: xs, ρ, h, k => by
    obtain ⟨ρ1, e1, h1⟩ := k d List.mem_cons_self ρ h
    unfold forL
    simp only [e1]
    rcases h1 with ⟨ρ2, h2, h3⟩ | ⟨r, h2, h3⟩
    · have := forL_inv P R (xs := xs) (ρ := ρ2) h3 fun d hd => k d (List.mem_cons_of_mem _ hd)
      rcases h2 with h2 | h2 <;> simp only [h2] <;> exact this
    · simp only [h2]
      exact .inr ⟨r, rfl, h3⟩
/-- .. whose turns keep P -/
theorem forL_all {b : D → Env' → Option Env'} {g : Env' → Res} (P : Env' → Prop) {xs : List D} {ρ : Env'} (h : P ρ) (k : ∀ d ∈ xs, ∀ ρ, P ρ → ∃ ρ1 ρ2, b d ρ = some ρ1 ∧ g ρ1 = .nx ρ2 ∧ P ρ2) : ∃ ρ', forL b g xs ρ = .nx ρ' ∧ P ρ' := by
  rcases forL_inv (b := b) (g := g) P (fun _ => False) h (fun d hd ρ hp => let ⟨ρ1, ρ2, h1, h2, h3⟩ := k d hd ρ hp; ⟨ρ1, h1, .inl ⟨ρ2, .inl h2, h3⟩⟩) with h | ⟨_, _, z⟩
  · exact h
  · exact z.elim
/-- .. P by the turn -/
theorem forL_ix {b : D → Env' → Option Env'} {g : Env' → Res} (P : Nat → Env' → Prop) : ∀ {xs : List D} {k : Nat} {ρ : Env'}, P k ρ → (∀ i d, xs[i]? = some d → ∀ ρ, P (k + i) ρ → ∃ ρ1 ρ2, b d ρ = some ρ1 ∧ g ρ1 = .nx ρ2 ∧ P (k + i + 1) ρ2) →
    ∃ ρ', forL b g xs ρ = .nx ρ' ∧ P (k + xs.length) ρ'
  | [], k, ρ, h, _ => ⟨ρ, rfl, h⟩
  | d :: xs, k, ρ, h, q => by
    obtain ⟨ρ1, ρ2, e1, e2, h2⟩ := q 0 d rfl ρ h
    obtain ⟨ρ', e3, h3⟩ := forL_ix P (xs := xs) (k := k + 1) (ρ := ρ2) (by simpa using h2) fun i d hi ρ hp => by
      have := q (i + 1) d (by simpa using hi) ρ (by rw [show k + (i + 1) = k + 1 + i by omega]; exact hp)
      rw [show k + (i + 1) + 1 = k + 1 + i + 1 by omega] at this
      exact this
    refine ⟨ρ', ?_, by rw [List.length_cons, show k + (xs.length + 1) = k + 1 + xs.length by omega]; exact h3⟩
    unfold forL
    simp only [e1, e2]
    exact e3
end Bv

namespace Bv
open PySem PySem.Spec L2 PyProof.Rows
/-! ### more for plain proofs -/
theorem forL_ixR {b : D → Env' → Option Env'} {g : Env' → Res} (P : Nat → Env' → Prop) (R : D → Prop) : ∀ {xs : List D} {k : Nat} {ρ : Env'}, P k ρ → (∀ i d, xs[i]? = some d → ∀ ρ, P (k + i) ρ → ∃ ρ1, b d ρ = some ρ1 ∧ ((∃ ρ2, g ρ1 = .nx ρ2 ∧ P (k + i + 1) ρ2) ∨ ∃ r, g ρ1 = .rt r ∧ R r)) →
    (∃ ρ', forL b g xs ρ = .nx ρ' ∧ P (k + xs.length) ρ') ∨ ∃ r, forL b g xs ρ = .rt r ∧ R r
  | [], k, ρ, h, _ => .inl ⟨ρ, rfl, h⟩
  | d :: xs, k, ρ, h, q => by
    obtain ⟨ρ1, e1, h1⟩ := q 0 d rfl ρ h
    unfold forL
    simp only [e1]
    rcases h1 with ⟨ρ2, e2, h2⟩ | ⟨r, e2, h2⟩
    · simp only [e2]
      rcases forL_ixR P R (xs := xs) (k := k + 1) (ρ := ρ2) (by simpa using h2) (fun i d hi ρ hp => by
        have := q (i + 1) d (by simpa using hi) ρ (by rw [show k + (i + 1) = k + 1 + i by omega]; exact hp)
        rw [show k + (i + 1) + 1 = k + 1 + i + 1 by omega] at this
        exact this) with ⟨ρ', e3, h3⟩ | h3
      · exact .inl ⟨ρ', e3, by rw [List.length_cons, show k + (xs.length + 1) = k + 1 + xs.length by omega]; exact h3⟩
      · exact .inr h3
    · simp only [e2]
      exact .inr ⟨r, rfl, h2⟩
theorem range_at {a b : Int} {i : Nat} {d : D} (hi : (rangeD a b)[i]? = some d) : d = .int (a + (i : Nat)) ∧ i < (b - a).toNat := by
  have hlt := (List.getElem?_eq_some_iff.mp hi).1
  rw [rangeD_len] at hlt
  rw [rangeD_get hlt] at hi
  cases hi
  exact ⟨rfl, hlt⟩
theorem rangeD_nat (n : Nat) : rangeD 0 (n : Nat) = (List.range n).map fun p => (.int ((p : Nat) : Int) : D) := by
  unfold rangeD
  rw [show ((n : Nat) - (0 : Int)).toNat = n by omega]
  exact List.map_congr_left fun p _ => by rw [Int.zero_add]
theorem rng1_nat {n : Nat} (h : n ≤ 1000000000) : rng1 [.int (n : Nat)] = .ok (rangeD 0 (n : Nat)) := by rw [rng1_i, if_pos (rngOk_of (by omega) (by omega))]
theorem six_n (n d : Nat) {i : Int} (h : 0 ≤ i) : HT.sIx n d (some i) = min i.toNat n := by
  unfold HT.sIx
  exact if_neg (by omega)
theorem cut_from (xs : List D) {i : Int} (h : 0 ≤ i) : cutD xs (some i) none = xs.drop i.toNat := by
  unfold cutD
  rw [six_n _ _ h, HT.sIx_none, List.take_of_length_le (by simp)]
  by_cases hl : i.toNat ≤ xs.length
  · rw [Nat.min_eq_left hl]
  · rw [Nat.min_eq_right (by omega), List.drop_eq_nil_of_le (by omega), List.drop_eq_nil_of_le (by omega)]
theorem cut_to (xs : List D) {i : Int} (h : 0 ≤ i) : cutD xs none (some i) = xs.take i.toNat := by
  unfold cutD
  rw [six_n _ _ h, HT.sIx_none, List.drop_zero, Nat.sub_zero]
  by_cases hl : i.toNat ≤ xs.length
  · rw [Nat.min_eq_left hl]
  · rw [Nat.min_eq_right (by omega), List.take_of_length_le (by omega), List.take_of_length_le (by omega)]
theorem cut_but (xs : List D) : cutD xs none (some (-1)) = xs.take (xs.length - 1) := by
  unfold cutD
  have : HT.sIx xs.length xs.length (some (-1)) = xs.length - 1 := by
    unfold HT.sIx
    simp
    omega
  rw [this, HT.sIx_none, List.drop_zero, Nat.sub_zero]
theorem append1 {j : Nat} {M : List Nat} {f : Vw → Rv D} {ρ : Env'} {xs : List D} {d : D} (h : ρ[j]? = some (.ow 1 (.list xs))) (hf : f (vw M ρ) = .ok d) (hi : imm d = true) (hl : xs.length < 16000000) : app j M f ρ = .nx (ρ.set j (.ow 1 (.list (xs ++ [d])))) := by
  rw [app_at (n := 0) h, hf]
  simp only [Rv.st_ok]
  rw [if_pos ⟨hl, .inl hi⟩, if_pos hi]
theorem extend_at {j n : Nat} {M : List Nat} {f : Vw → Rv D} {ρ : Env'} {xs es : List D} (h : ρ[j]? = some (.ow (n + 1) (.list xs))) (hf : f (vw M ρ) = .ok (.list es)) (hl : xs.length + es.length < 16000000) (hi : immA es = true) : ext j M f ρ = .nx (ρ.set j (.ow (n + 1) (.list (xs ++ es)))) := by
  unfold ext
  simp only [h, hf, Rv.st_ok]
  rw [if_pos ⟨hl, hi⟩]
theorem ixD_last (xs : List D) (x : D) : ixD (xs ++ [x]) (-1) = .ok x := by
  have : atI (xs ++ [x]) (-1) = some x := by
    unfold atI ixN
    rw [if_neg (by decide), List.length_append, List.length_singleton]
    rw [if_pos (show -(((xs.length + 1 : Nat)) : Int) ≤ -1 by omega)]
    simp only [Option.bind_some]
    have h2 : ((↑(xs.length + 1) : Int) + -1).toNat = xs.length := by omega
    have h3 : (-1 + (↑(xs.length + 1) : Int)).toNat = xs.length := by omega
    first | rw [h2] | rw [h3]
    rw [List.getElem?_append_right (by simp)]
    simp
  unfold ixD
  rw [this]
/-! numbers in lists -/
theorem ints_eqv : ∀ (a b : List Int), PyData.eqvAll (a.map .int) (b.map .int) = decide (a = b)
  | [], [] => rfl
  | [], b :: bs => rfl
  | a :: as, [] => rfl
  | a :: as, b :: bs => by
    have ih := ints_eqv as bs
    simp only [List.map_cons, PyData.eqvAll, PyData.eqv, ih]
    rw [Bool.eq_iff_iff]
    simp
theorem dEq_ints (a b : List Int) : dEq (.list (a.map .int)) (.list (b.map .int)) = .ok (.bool (decide (a = b))) := by
  have e : dEq (.list (a.map .int)) (.list (b.map .int)) = if shp (.list (a.map .int)) = true ∧ shp (.list (b.map .int)) = true then .ok (.bool (PyData.eqv (.list (a.map .int)) (.list (b.map .int)))) else .un := rfl
  rw [e, if_pos ⟨shp_ints a, shp_ints b⟩]
  rw [PyData.eqv, ints_eqv]
theorem rangeD_isInts (a b : Int) : ∃ ns : List Int, rangeD a b = ns.map .int := ⟨(List.range (b - a).toNat).map fun i => a + (i : Nat), by unfold rangeD; rw [List.map_map]; rfl⟩
theorem sortedA_ints (ns : List Int) : dSortedA [.list (ns.map .int)] = .ok ((sortI ns).map .int) := by
  show (match intsOf (ns.map .int) with
      | some ns => Rv.ok ((sortI ns).map PyData.int)
      | none => match strsOf (ns.map .int) with
        | some ks => .ok ((sortS ks).map .str)
        | none => .un) = _
  rw [intsOf_map]
theorem rgF_at {fa fb : Vw → Rv D} {η : Vw} {a b : Int} (ha : fa η = .ok (.int a)) (hb : fb η = .ok (.int b)) (h1 : -1000000000 ≤ a ∧ a ≤ 1000000000) (h2 : -1000000000 ≤ b ∧ b ≤ 1000000000) (h3 : b - a ≤ 16000000) : rgF fa fb η = .ok (rangeD a b) := by
  unfold rgF
  rw [ha, hb]
  simp only [Rv.bind_ok]
  rw [if_pos ⟨rngOk_of h1.1 h1.2, rngOk_of h2.1 h2.2, by omega⟩]
/-! what can be shown -/
def Shw (n m : Nat) (d : D) : Prop := nodict d = true ∧ d.showable = true ∧ d.depth ≤ n ∧ d.leavesShort 110 = true ∧ d.weight ≤ m
theorem Shw.mono {n m n' m' : Nat} {d : D} (h : Shw n m d) (hn : n ≤ n') (hm : m ≤ m') : Shw n' m' d := ⟨h.1, h.2.1, Nat.le_trans h.2.2.1 hn, h.2.2.2.1, Nat.le_trans h.2.2.2.2 hm⟩
theorem shw_all {n m : Nat} {xs : List D} (h : ∀ d ∈ xs, Shw n m d) : nodictA xs = true ∧ PyData.showableAll xs = true ∧ PyData.depthAll xs ≤ n ∧ PyData.leavesShortAll 110 xs = true ∧ PyData.weightAll xs ≤ (m + 1) * xs.length := by
  induction xs with
  | nil => exact ⟨rfl, rfl, by simp [PyData.depthAll], rfl, Nat.le_refl _⟩
  | cons d xs ih =>
    obtain ⟨h1, h2, h3, h4, h5⟩ := ih fun x hx => h x (List.mem_cons_of_mem _ hx)
    obtain ⟨g1, g2, g3, g4, g5⟩ := h d List.mem_cons_self
    refine ⟨by simp [nodictA, g1, h1], by simp [PyData.showableAll, g2, h2], by simp only [PyData.depthAll]; omega, by simp [PyData.leavesShortAll, g4, h4], ?_⟩
    simp only [PyData.weightAll, List.length_cons, Nat.mul_add, Nat.mul_one]
    omega
theorem shw_tup {n m : Nat} {xs : List D} (h : ∀ d ∈ xs, Shw n m d) : Shw (n + 1) ((m + 1) * xs.length) (.tuple xs) := by
  obtain ⟨g1, g2, g3, g4, g5⟩ := shw_all h
  exact ⟨by simpa [nodict] using g1, by simpa [PyData.showable] using g2, by simp only [PyData.depth]; omega, by simpa [PyData.leavesShort] using g4, g5⟩
theorem shw_lst {n m : Nat} {xs : List D} (h : ∀ d ∈ xs, Shw n m d) : Shw (n + 1) ((m + 1) * xs.length) (.list xs) := by
  obtain ⟨g1, g2, g3, g4, g5⟩ := shw_all h
  exact ⟨by simpa [nodict] using g1, by simpa [PyData.showable] using g2, by simp only [PyData.depth]; omega, by simpa [PyData.leavesShort] using g4, g5⟩
theorem shw_none : Shw 0 0 .none := ⟨rfl, rfl, by simp [PyData.depth], rfl, by simp [PyData.weight]⟩
theorem shw_bool (b : Bool) : Shw 0 0 (.bool b) := ⟨rfl, rfl, by simp [PyData.depth], rfl, by simp [PyData.weight]⟩
theorem shw_int {i : Int} (h : i.natAbs < 10 ^ 12) : Shw 0 40 (.int i) := by
  have h1 := PyData.shown_int_le h
  have h2 : i.natAbs.log2 < 40 := by
    by_cases h0 : i.natAbs = 0
    · rw [h0]; decide
    · exact (Nat.log2_lt h0).mpr (Nat.lt_of_lt_of_le h (by decide))
  refine ⟨rfl, ?_, by simp [PyData.depth], ?_, ?_⟩
  · simp [PyData.showable]
    omega
  · simp only [PyData.leavesShort]
    exact decide_eq_true (by omega)
  · simp only [PyData.weight]
    split <;> omega
theorem repr_at {n m : Nat} {d : D} (h : Shw n m d) (hn : n ≤ 60) (hm : m ≤ 100000) : dRepr [d] = .ok (.str d.shown) := by
  obtain ⟨g1, g2, g3, g4, g5⟩ := h
  have := PyData.shown_le 110 (by decide) d g4
  rw [dRepr_1, if_pos]
  exact ⟨g1, g2, by omega, by omega⟩
end Bv

namespace K63
open PySem PySem.Spec L2 PyProof.Rows Bv
open SX (S)
theorem S_nil : (Str.ofString "" : Str) = S [] := by kernel_rfl
theorem S_sp : (Str.ofString " " : Str) = S [32] := by kernel_rfl
theorem S_co : (Str.ofString ":" : Str) = S [58] := by kernel_rfl
theorem S_nl : (Str.ofString "\n" : Str) = S [10] := by kernel_rfl
theorem S_mi : (Str.ofString "-" : Str) = S [45] := by kernel_rfl
theorem S_0 : (Str.ofString "0" : Str) = S [48] := by kernel_rfl
theorem S_fig : (Str.ofString "0123456789" : Str) = S [48, 49, 50, 51, 52, 53, 54, 55, 56, 57] := by kernel_rfl
theorem S_do : (Str.ofString "do" : Str) = S [100, 111] := by kernel_rfl
theorem S_wait : (Str.ofString "wait" : Str) = S [119, 97, 105, 116] := by kernel_rfl
theorem S_send : (Str.ofString "send" : Str) = S [115, 101, 110, 100] := by kernel_rfl
theorem S_sendm : (Str.ofString "send-" : Str) = S [115, 101, 110, 100, 45] := by kernel_rfl
theorem S_eq {a b : List Nat} : (S a = S b) = (a = b) := propext ⟨SX.S_inj, fun h => by rw [h]⟩
/-! parts of texts -/
theorem six_nat (n d : Nat) {i : Int} (h : 0 ≤ i) : HT.sIx n d (some i) = min i.toNat n := by
  unfold HT.sIx
  exact if_neg (by omega)
theorem six_m1 (n d : Nat) : HT.sIx n d (some (-1)) = n - 1 := by
  unfold HT.sIx
  simp
  omega
theorem cutS_S (a : List Nat) (lo hi : Option Int) : cutS (S a) lo hi = S ((a.drop (HT.sIx a.length 0 lo)).take (HT.sIx a.length a.length hi - HT.sIx a.length 0 lo)) := by
  unfold cutS
  rw [SX.S_len]
theorem cutS_but (a : List Nat) : cutS (S a) none (some (-1)) = S (a.take (a.length - 1)) := by
  rw [cutS_S, six_m1, HT.sIx_none, List.drop_zero, Nat.sub_zero]
theorem cutS_last (a : List Nat) : cutS (S a) (some (-1)) none = S (a.drop (a.length - 1)) := by
  rw [cutS_S, six_m1, HT.sIx_none, List.take_of_length_le (by simp)]
theorem cutS_to (a : List Nat) {i : Int} (h : 0 ≤ i) : cutS (S a) none (some i) = S (a.take i.toNat) := by
  rw [cutS_S, six_nat _ _ h, HT.sIx_none, List.drop_zero, Nat.sub_zero]
  congr 1
  by_cases hl : i.toNat ≤ a.length
  · rw [Nat.min_eq_left hl]
  · rw [Nat.min_eq_right (by omega), List.take_of_length_le (by omega), List.take_of_length_le (by omega)]
theorem cutS_from (a : List Nat) {i : Int} (h : 0 ≤ i) : cutS (S a) (some i) none = S (a.drop i.toNat) := by
  rw [cutS_S, six_nat _ _ h, HT.sIx_none, List.take_of_length_le (by simp)]
  congr 1
  by_cases hl : i.toNat ≤ a.length
  · rw [Nat.min_eq_left hl]
  · rw [Nat.min_eq_right (by omega), List.drop_eq_nil_of_le (by omega), List.drop_eq_nil_of_le (by omega)]
theorem dSlS_S (a : List Nat) (lo hi : Option Int) (h : a.length ≤ 16000000) : dSlS (.str (S a)) lo hi = .ok (.str (cutS (S a) lo hi)) := by
  show (if (S a).length ≤ 16000000 then Rv.ok (PyData.str (cutS (S a) lo hi)) else .un) = _
  rw [SX.S_len, if_pos h]
theorem dLen_S (a : List Nat) (h : a.length ≤ 16000000) : dLen [.str (S a)] = .ok (.int a.length) := by
  have : dLen [.str (S a)] = if (S a).length ≤ 16000000 then .ok (.int (S a).length) else .un := rfl
  rw [this, SX.S_len, if_pos h]
theorem signs_S (a : List Nat) : Bv.signs (S a) = a.map fun c => (.str (S [c]) : D) := by
  unfold Bv.signs
  rfl
/-! numbers -/
def dig (c : Nat) : Bool := decide (48 ≤ c ∧ c ≤ 57)
def numS : List Nat → Option Nat
  | [a] => if dig a = true then some (a - 48) else none
  | [a, b] => if dig a = true ∧ dig b = true ∧ a ≠ 48 then some (10 * (a - 48) + (b - 48)) else none
  | _ => none
def oD : Option Nat → D
  | some n => .int n
  | none => .none
theorem in_fig (c : Nat) : dInQ (.str (S [c])) (.str (S [48, 49, 50, 51, 52, 53, 54, 55, 56, 57])) = .ok (.bool (dig c)) := by
  show Rv.ok (PyData.bool (!(Builtin.Str.occurrences (S [48, 49, 50, 51, 52, 53, 54, 55, 56, 57]) (S [c]) 0 (S [48, 49, 50, 51, 52, 53, 54, 55, 56, 57]).length 1).isEmpty)) = _
  rw [SX.in_one]
  congr 2
  unfold dig
  rw [decide_eq_decide]
  simp only [List.mem_cons, List.not_mem_nil, or_false]
  omega
theorem notin_fig (c : Nat) : dNotInQ (.str (S [c])) (.str (S [48, 49, 50, 51, 52, 53, 54, 55, 56, 57])) = .ok (.bool (!dig c)) := by
  unfold dNotInQ
  rw [in_fig]
  rfl
theorem dIntS_S {a : List Nat} (h : a.all dig = true) (h0 : a ≠ []) (hl : a.length ≤ 640) : dIntS [.str (S a)] = .ok (.int (NumText.digitsVal a : Nat)) := by
  have e : intText? (S a) = some ((NumText.digitsVal a : Nat) : Int) := SX.int_S (by
    rw [← h]
    congr 1
    funext c
    unfold dig
    simp) h0 (by omega)
  show (match PySem.intText? (S a) with | some n => if (S a).length ≤ 640 then Rv.ok (PyData.int n) else .un | none => .un) = _
  rw [e]
  dsimp only
  rw [SX.S_len, if_pos hl]
theorem dIx_S0 (c : Nat) (a : List Nat) (h : (c :: a).length ≤ 16000000) : dIx (.str (S (c :: a))) (.int 0) = .ok (.str (S [c])) := by
  rw [dIx_s, SX.S_len, if_pos h]
  have : atI (S (c :: a)).cps.toList 0 = some c := by
    show atI (c :: a) 0 = some c
    unfold atI ixN
    simp
  rw [this]
theorem numS_1 (a : Nat) : numS [a] = if dig a = true then some (a - 48) else none := rfl
theorem numS_2 (a b : Nat) : numS [a, b] = if dig a = true ∧ dig b = true ∧ a ≠ 48 then some (10 * (a - 48) + (b - 48)) else none := rfl
theorem numS_3 (a b c : Nat) (r : List Nat) : numS (a :: b :: c :: r) = none := rfl
theorem number_of_at (w : List Nat) (h : w.length ≤ 1000000) : f_number_of [.str (S w)] = .ok (oD (numS w)) := by
  have hl := dLen_S w (by omega)
  have hc : ∀ η : Option D, compL (vName 1) yes (bi2 dInQ (var 1) (cst (.str (S [48, 49, 50, 51, 52, 53, 54, 55, 56, 57])))) (w.map fun c => .str (S [c])) [η, none] = .ok ((w.map dig).map .bool) := by
    intro η
    rw [List.map_map]
    exact compL_map fun c _ => ⟨_, rfl, rfl, by simp [in_fig]⟩
  have ha := dAll_b (w.map dig)
  have hsg := signs_S w
  unfold f_number_of
  have sh : w = [] ∨ (∃ a, w = [a]) ∨ (∃ a b, w = [a, b]) ∨ ∃ a b c r, w = a :: b :: c :: r := by
    match w with
    | [] => exact .inl rfl
    | [a] => exact .inr (.inl ⟨a, rfl⟩)
    | [a, b] => exact .inr (.inr (.inl ⟨a, b, rfl⟩))
    | a :: b :: c :: r => exact .inr (.inr (.inr ⟨a, b, c, r, rfl⟩))
  have hall : dAll [.list ((w.map dig).map .bool)] = .ok (.bool (w.all dig)) := by rw [ha, List.all_map]; rfl
  rcases sh with rfl | ⟨a, rfl⟩ | ⟨a, b, rfl⟩ | ⟨a, b, c, r, rfl⟩
  · simp -implicitDefEqProofs [m_number_of, chn, hl, numS, oD]
  · have h0 := dIx_S0 a [] (by simp)
    generalize hbs : ([a].map dig).map PyData.bool = bs at hc hall
    cases hda : dig a with
    | false =>
      have hall : dAll [.list bs] = .ok (.bool false) := by rw [hall]; simp [hda]
      simp -implicitDefEqProofs only [List.map_cons, List.map_nil] at hsg hc
      simp -implicitDefEqProofs [m_number_of, chn, hl, S_fig, srcS, hsg, hc, hall, numS, hda, oD]
    | true =>
      have hall : dAll [.list bs] = .ok (.bool true) := by rw [hall]; simp [hda]
      have hi := dIntS_S (a := [a]) (by simp [hda]) (by simp) (by simp)
      simp -implicitDefEqProofs only [List.map_cons, List.map_nil] at hsg hc
      by_cases h48 : a = 48
      · subst h48
        kernel_rfl
      · simp -implicitDefEqProofs [m_number_of, chn, hl, S_fig, srcS, hsg, hc, hall, h0, S_0, S_eq, hi, numS_1, hda, oD, h48, NumText.digitsVal]
  · have h0 := dIx_S0 a [b] (by simp)
    generalize hbs : ([a, b].map dig).map PyData.bool = bs at hc hall
    cases hda : (dig a && dig b) with
    | false =>
      have hall : dAll [.list bs] = .ok (.bool false) := by rw [hall]; simpa using hda
      have hd2 : ¬ (dig a = true ∧ dig b = true ∧ a ≠ 48) := fun q => by rw [q.1, q.2.1] at hda; cases hda
      simp -implicitDefEqProofs only [List.map_cons, List.map_nil] at hsg hc
      simp -implicitDefEqProofs [m_number_of, chn, hl, S_fig, srcS, hsg, hc, hall]
      rw [numS_2, if_neg hd2]
      rfl
    | true =>
      have hd1 : dig a = true ∧ dig b = true := by simpa using hda
      have hall : dAll [.list bs] = .ok (.bool true) := by rw [hall]; simpa using hda
      have hi := dIntS_S (a := [a, b]) (by simp [hd1.1, hd1.2]) (by simp) (by simp)
      simp -implicitDefEqProofs only [List.map_cons, List.map_nil] at hsg hc
      have n2 : numS [a, b] = if a ≠ 48 then some (10 * (a - 48) + (b - 48)) else none := by rw [numS_2]; simp [hd1]
      have dv : ((NumText.digitsVal [a, b] : Nat) : Int) = ((10 * (a - 48) + (b - 48) : Nat) : Int) := by simp [NumText.digitsVal]; omega
      rw [dv] at hi
      generalize (10 * (a - 48) + (b - 48)) = v at hi n2
      simp -implicitDefEqProofs only [List.length_cons, List.length_nil] at hl
      by_cases h48 : a = 48
      · have n3 : numS [a, b] = none := by rw [n2]; simp [h48]
        have h0' : dEq (.str (S [a])) (.str (S [48])) = .ok (.bool true) := by simp [dEq_ss, S_eq, h48]
        rw [n3]
        simp -implicitDefEqProofs [m_number_of, chn, hl, S_fig, srcS, hsg, hc, hall, h0, S_0, h0', S_eq, oD]
      · have n3 : numS [a, b] = some v := by rw [n2]; simp [h48]
        have h0' : dEq (.str (S [a])) (.str (S [48])) = .ok (.bool false) := by simp [dEq_ss, S_eq, h48]
        rw [n3]
        simp -implicitDefEqProofs [m_number_of, chn, hl, S_fig, srcS, hsg, hc, hall, h0, S_0, h0', S_eq, hi, oD]
  · have d1 : decide ((1 : Int) ≤ (r.length : Int) + 1 + 1 + 1) = true := decide_eq_true (by omega)
    have d2 : decide ((r.length : Int) + 1 + 1 + 1 ≤ 2) = false := decide_eq_false (by omega)
    simp -implicitDefEqProofs [m_number_of, chn, hl, d1, d2, numS_3, oD]
end K63

namespace K63
open PySem PySem.Spec L2 PyProof.Rows Bv
open SX (S)
theorem shp_row {xs : List D} (h : ∀ d ∈ xs, nodict d = true ∧ PyData.canLay0 d = true ∧ d.depth ≤ 20) : shp (.list xs) = true := by
  have h1 : ∀ xs : List D, (∀ d ∈ xs, nodict d = true ∧ PyData.canLay0 d = true ∧ d.depth ≤ 20) → nodictA xs = true ∧ PyData.canLayAll0 xs = true ∧ PyData.depthAll xs ≤ 20 := fun xs => by
    induction xs with
    | nil => intro _; exact ⟨rfl, rfl, by simp [PyData.depthAll]⟩
    | cons x xs ih =>
      intro h
      obtain ⟨a, b, c⟩ := ih fun d hd => h d (List.mem_cons_of_mem _ hd)
      obtain ⟨a', b', c'⟩ := h x List.mem_cons_self
      refine ⟨by simp [nodictA, a, a'], by simp [PyData.canLayAll0, b, b'], by simp only [PyData.depthAll]; omega⟩
  obtain ⟨a, b, c⟩ := h1 xs h
  have c' : PyData.depth (.list xs) ≤ 64 := by simp only [PyData.depth]; omega
  simp [shp, nodict, a, SeqAt.shaped, PyData.canLay0, b, c']
theorem dEq_row {xs : List D} (h : ∀ d ∈ xs, nodict d = true ∧ PyData.canLay0 d = true ∧ d.depth ≤ 20) : dEq (.list xs) (.list []) = .ok (.bool xs.isEmpty) := by
  have e : dEq (.list xs) (.list []) = if shp (.list xs) = true ∧ shp (.list []) = true then .ok (.bool (PyData.eqv (.list xs) (.list []))) else .un := rfl
  rw [e, if_pos ⟨shp_row h, shp_ints []⟩]
  cases xs <;> simp [PyData.eqv, PyData.eqvAll]
def Asc (a : List Nat) : Prop := ∀ c ∈ a, c < 128
theorem str_flat {a : List Nat} (h : Asc a) : nodict (.str (S a)) = true ∧ PyData.canLay0 (.str (S a)) = true ∧ (PyData.str (S a)).depth ≤ 20 := by
  refine ⟨rfl, ?_, by simp [PyData.depth]⟩
  show (S a).cps.all (fun c => decide (c < 0x110000)) = true
  rw [Array.all_eq_true_iff_forall_mem]
  intro c hc
  have : c ∈ a := by simpa [S] using hc
  have := h c this
  exact decide_eq_true (by omega)
theorem law_number_at (w : List Nat) (h : w.length ≤ 1000000) (h8 : Asc w) : f_law_number [.str (S w)] = .ok (oD (numS w)) := by
  have hl := dLen_S w (by omega)
  have hin : dNotInQ (.int w.length) (.tuple [.int 1, .int 2]) = .ok (.bool !(decide (w.length = 1 ∨ w.length = 2))) := by
    unfold dNotInQ
    have : dInQ (.int w.length) (.tuple [.int 1, .int 2]) = .ok (.bool (decide (w.length = 1 ∨ w.length = 2))) := by
      show Rv.ok (PyData.bool (((1 : Int) == (w.length : Int)) || (((2 : Int) == (w.length : Int)) || false))) = _
      congr 2
      rw [Bool.eq_iff_iff]
      simp
      omega
    rw [this]
    rfl
  have hc : ∀ η : Option D, compL (vName 1) (asB (bi2 dNotInQ (var 1) (cst (.str (S [48, 49, 50, 51, 52, 53, 54, 55, 56, 57]))))) (var 1) (w.map fun c => .str (S [c])) [η, none] = .ok ((w.filter fun c => !dig c).map fun c => .str (S [c])) := by
    intro η
    exact compL_filter fun c _ => ⟨_, rfl, by simp [notin_fig], fun _ => by simp⟩
  have hsg := signs_S w
  have hq : dEq (.list ((w.filter fun c => !dig c).map fun c => .str (S [c]))) (.list []) = .ok (.bool (w.all dig)) := by
    rw [dEq_row fun d hd => by obtain ⟨c, hm, rfl⟩ := List.mem_map.mp hd; exact str_flat fun x hx => by rw [List.mem_singleton.mp hx]; exact h8 c (List.mem_filter.mp hm).1]
    congr 2
    rw [Bool.eq_iff_iff]
    simp
  have hne : dNe (.list ((w.filter fun c => !dig c).map fun c => .str (S [c]))) (.list []) = .ok (.bool !(w.all dig)) := by
    unfold dNe
    rw [hq]
    rfl
  have hfl : ((w.filter fun c => !dig c).map fun c => (.str (S [c]) : D)).length ≤ 16000000 := by
    rw [List.length_map]
    have := List.length_filter_le (fun c => !dig c) w
    omega
  generalize ((w.filter fun c => !dig c).map fun c => (.str (S [c]) : D)) = F at hc hne hfl
  clear hq
  unfold f_law_number
  have sh : w = [] ∨ (∃ a, w = [a]) ∨ (∃ a b, w = [a, b]) ∨ ∃ a b c r, w = a :: b :: c :: r := by
    match w with
    | [] => exact .inl rfl
    | [a] => exact .inr (.inl ⟨a, rfl⟩)
    | [a, b] => exact .inr (.inr (.inl ⟨a, b, rfl⟩))
    | a :: b :: c :: r => exact .inr (.inr (.inr ⟨a, b, c, r, rfl⟩))
  rcases sh with rfl | ⟨a, rfl⟩ | ⟨a, b, rfl⟩ | ⟨a, b, c, r, rfl⟩
  · have hin : dNotInQ (.int (0 : Int)) (.tuple [.int 1, .int 2]) = .ok (.bool true) := by kernel_rfl
    simp -implicitDefEqProofs [m_law_number, hl, hin, numS, oD]
  · have h0 := dIx_S0 a [] (by simp)
    simp -implicitDefEqProofs only [List.map_cons, List.map_nil] at hsg hc
    have hin : dNotInQ (.int (1 : Int)) (.tuple [.int 1, .int 2]) = .ok (.bool false) := by kernel_rfl
    cases hda : dig a with
    | false =>
      have hne : dNe (.list F) (.list []) = .ok (.bool true) := by rw [hne]; simp [hda]
      simp -implicitDefEqProofs [m_law_number, hl, S_fig, srcS, hsg, hc, hin, hne, hfl, numS_1, hda, oD]
    | true =>
      have hne : dNe (.list F) (.list []) = .ok (.bool false) := by rw [hne]; simp [hda]
      have hi := dIntS_S (a := [a]) (by simp [hda]) (by simp) (by simp)
      simp -implicitDefEqProofs [m_law_number, hl, S_fig, srcS, hsg, hc, hin, hne, hfl, hi, numS_1, hda, oD, NumText.digitsVal]
  · have h0 := dIx_S0 a [b] (by simp)
    simp -implicitDefEqProofs only [List.map_cons, List.map_nil] at hsg hc
    have hin : dNotInQ (.int (2 : Int)) (.tuple [.int 1, .int 2]) = .ok (.bool false) := by kernel_rfl
    cases hda : (dig a && dig b) with
    | false =>
      have hne : dNe (.list F) (.list []) = .ok (.bool true) := by rw [hne]; simp only [List.all_cons, List.all_nil, Bool.and_true, hda]; rfl
      have hd2 : ¬ (dig a = true ∧ dig b = true ∧ a ≠ 48) := fun q => by rw [q.1, q.2.1] at hda; cases hda
      simp -implicitDefEqProofs [m_law_number, hl, S_fig, srcS, hsg, hc, hin, hne, hfl]
      rw [numS_2, if_neg hd2]
      rfl
    | true =>
      have hd1 : dig a = true ∧ dig b = true := by simpa using hda
      have hne : dNe (.list F) (.list []) = .ok (.bool false) := by rw [hne]; simpa using hda
      have hi := dIntS_S (a := [a, b]) (by simp [hd1.1, hd1.2]) (by simp) (by simp)
      have n2 : numS [a, b] = if a ≠ 48 then some (10 * (a - 48) + (b - 48)) else none := by rw [numS_2]; simp [hd1]
      have dv : ((NumText.digitsVal [a, b] : Nat) : Int) = ((10 * (a - 48) + (b - 48) : Nat) : Int) := by simp [NumText.digitsVal]; omega
      rw [dv] at hi
      generalize (10 * (a - 48) + (b - 48)) = v at hi n2
      simp -implicitDefEqProofs only [List.length_cons, List.length_nil] at hl
      by_cases h48 : a = 48
      · have n3 : numS [a, b] = none := by rw [n2]; simp [h48]
        have h0' : dEq (.str (S [a])) (.str (S [48])) = .ok (.bool true) := by simp [dEq_ss, S_eq, h48]
        rw [n3]
        simp -implicitDefEqProofs [m_law_number, hl, S_fig, srcS, hsg, hc, hin, hne, hfl, h0, S_0, h0', S_eq, oD]
      · have n3 : numS [a, b] = some v := by rw [n2]; simp [h48]
        have h0' : dEq (.str (S [a])) (.str (S [48])) = .ok (.bool false) := by simp [dEq_ss, S_eq, h48]
        rw [n3]
        simp -implicitDefEqProofs [m_law_number, hl, S_fig, srcS, hsg, hc, hin, hne, hfl, h0, S_0, h0', S_eq, hi, oD]
  · have hin : dNotInQ (.int ((r.length : Int) + 1 + 1 + 1)) (.tuple [.int 1, .int 2]) = .ok (.bool true) := by
      have := hin
      simp only [List.length_cons] at this
      rw [show ((r.length + 1 + 1 + 1 : Nat) : Int) = (r.length : Int) + 1 + 1 + 1 by omega] at this
      rw [this]
      simp
    simp -implicitDefEqProofs [m_law_number, hl, hin, numS_3, oD]
/-! steps -/
inductive Sp where
  | dow
  | wai
  | snd (k : Nat)
def Sp.d : Sp → D
  | .dow => .tuple [.str "do"]
  | .wai => .tuple [.str "wait"]
  | .snd k => .tuple [.str "send", .int k]
def stepS (w : List Nat) : Option Sp := if w = [100, 111] then some .dow else if w = [119, 97, 105, 116] then some .wai else if w.take 5 = [115, 101, 110, 100, 45] then (numS (w.drop 5)).map .snd else none
def sD : Option Sp → D
  | some s => s.d
  | none => .none
theorem in_words (w : List Nat) : dInQ (.str (S w)) (.tuple [.str (S [100, 111]), .str (S [119, 97, 105, 116])]) = .ok (.bool (decide (w = [100, 111] ∨ w = [119, 97, 105, 116]))) := by
  show Rv.ok (PyData.bool ((S [100, 111] == S w) || ((S [119, 97, 105, 116] == S w) || false))) = _
  congr 2
  rw [SX.S_beq_eq, SX.S_beq_eq]
  rw [Bool.eq_iff_iff]
  simp only [Bool.or_false, Bool.or_eq_true, decide_eq_true_eq]
  constructor
  · rintro (h | h)
    · exact .inl h.symm
    · exact .inr h.symm
  · rintro (h | h)
    · exact .inl h.symm
    · exact .inr h.symm
theorem isN_oD (o : Option Nat) : isN (oD o) = !o.isSome := by cases o <;> rfl
theorem imm_oD (o : Option Nat) : imm (oD o) = true := by cases o <;> rfl
theorem step_of_at (w : List Nat) (h : w.length ≤ 1000000) : f_step_of [.str (S w)] = .ok (sD (stepS w)) := by
  have hin := in_words w
  have hd := number_of_at (w.drop 5) (by rw [List.length_drop]; omega)
  have c1 := dSlS_S w (some 5) none (by omega)
  have c2 := dSlS_S w none (some 5) (by omega)
  rw [cutS_from _ (by decide)] at c1
  rw [cutS_to _ (by decide)] at c2
  have l5 : dLen [.str (S [115, 101, 110, 100, 45])] = .ok (.int 5) := by kernel_rfl
  have c1 : dSlS (.str (S w)) (some 5) none = .ok (.str (S (w.drop 5))) := c1
  have c2 : dSlS (.str (S w)) none (some 5) = .ok (.str (S (w.take 5))) := c2
  unfold f_step_of
  by_cases h1 : w = [100, 111]
  · subst h1; kernel_rfl
  by_cases h2 : w = [119, 97, 105, 116]
  · subst h2; kernel_rfl
  have hin : dInQ (.str (S w)) (.tuple [.str (S [100, 111]), .str (S [119, 97, 105, 116])]) = .ok (.bool false) := by rw [hin]; simp [h1, h2]
  unfold stepS
  rw [if_neg h1, if_neg h2]
  by_cases h3 : w.take 5 = [115, 101, 110, 100, 45]
  · rw [if_pos h3]
    rw [h3] at c2
    cases hn : numS (w.drop 5) with
    | none =>
      rw [hn] at hd
      simp -implicitDefEqProofs [m_step_of, S_do, S_wait, S_sendm, hin, l5, slcS, c1, c2, hd, oD, sD]
    | some n =>
      rw [hn] at hd
      simp -implicitDefEqProofs [m_step_of, S_do, S_wait, S_sendm, hin, l5, slcS, c1, c2, hd, oD, sD, Sp.d]
  · rw [if_neg h3]
    have he : dEq (.str (S (w.take 5))) (.str (S [115, 101, 110, 100, 45])) = .ok (.bool false) := by simp [dEq_ss, S_eq, h3]
    have hi := imm_oD (numS (w.drop 5))
    simp -implicitDefEqProofs [m_step_of, S_do, S_wait, S_sendm, hin, l5, slcS, c1, c2, hd, hi, he, h3, sD]
end K63

namespace K63
open PySem PySem.Spec L2 PyProof.Rows Bv
open SX (S)
/-! a text split at one sign -/
def glue (c : Nat) : List (List Nat) → List (List Nat)
  | [] => [[c]]
  | p :: ps => (c :: p) :: ps
def sp1 (s : Nat) : List Nat → List (List Nat)
  | [] => [[]]
  | c :: r => if c = s then [] :: sp1 s r else glue c (sp1 s r)
theorem sp1_ne (s : Nat) : ∀ L, sp1 s L ≠ []
  | [] => by simp [sp1]
  | c :: r => by
    unfold sp1
    split
    · simp
    · cases sp1 s r <;> simp [glue]
theorem spl_sp1 (s : Nat) : ∀ (L acc : List Nat), TL.spl [s] 0 acc L = (acc ++ (sp1 s L).headD []) :: (sp1 s L).tail
  | [], acc => by simp [TL.spl, sp1]
  | c :: r, acc => by
    unfold sp1
    by_cases h : c = s
    · rw [if_pos h, TL.spl_hit (by simp [TL.pre, h])]
      simp only [List.length_cons, List.length_nil, Nat.zero_add, Nat.sub_self, List.headD_cons, List.append_nil, List.tail_cons]
      rw [spl_sp1 s r []]
      cases e : sp1 s r with
      | nil => exact absurd e (sp1_ne s r)
      | cons p ps => rfl
    · rw [if_neg h, TL.spl_miss (by simp [TL.pre]; exact h), spl_sp1 s r (acc ++ [c])]
      cases e : sp1 s r with
      | nil => exact absurd e (sp1_ne s r)
      | cons p ps => simp [glue]
theorem spl_eq (s : Nat) (L : List Nat) : TL.spl [s] 0 [] L = sp1 s L := by
  rw [spl_sp1]
  cases e : sp1 s L with
  | nil => exact absurd e (sp1_ne s L)
  | cons p ps => rfl
theorem dSplit_S {s : Nat} (h : s < 256) (L : List Nat) (hl : L.length ≤ 1000000) : dSplit (.str (S L)) (.str (S [s])) = .ok ((sp1 s L).map fun p => .str (S p)) := by
  have e0 : dSplit (.str (S L)) (.str (S [s])) = if ((S [s]).length == 0) = false ∧ (S L).length + 2 ≤ 16000000 then .ok ((Txt.split (S L) (S [s])).map .str) else .un := rfl
  rw [e0, if_pos ⟨by simp [SX.S_len], by rw [SX.S_len]; omega⟩, SX.split_S (by simp) (by simpa using h), spl_eq, List.map_map]
  rfl
theorem sp1_mem {s : Nat} : ∀ {L p : List Nat}, p ∈ sp1 s L → (∀ c ∈ p, c ∈ L ∧ c ≠ s) ∧ p.length ≤ L.length
  | [], p, h => by
    rw [show sp1 s [] = [[]] from rfl, List.mem_singleton] at h
    subst h
    exact ⟨fun c hc => (by cases hc), Nat.le_refl _⟩
  | c :: r, p, h => by
    unfold sp1 at h
    split at h
    · rcases List.mem_cons.mp h with rfl | h
      · exact ⟨fun c hc => (by cases hc), Nat.zero_le _⟩
      · obtain ⟨a, b⟩ := sp1_mem h
        exact ⟨fun x hx => ⟨List.mem_cons_of_mem _ (a x hx).1, (a x hx).2⟩, by rw [List.length_cons]; omega⟩
    · rename_i hcs
      cases e : sp1 s r with
      | nil => exact absurd e (sp1_ne s r)
      | cons q qs =>
        rw [e] at h
        unfold glue at h
        have hq : q ∈ sp1 s r := by rw [e]; exact List.mem_cons_self
        rcases List.mem_cons.mp h with rfl | h
        · obtain ⟨a, b⟩ := sp1_mem hq
          refine ⟨fun x hx => ?_, by simp only [List.length_cons]; omega⟩
          rcases List.mem_cons.mp hx with rfl | hx
          · exact ⟨List.mem_cons_self, hcs⟩
          · exact ⟨List.mem_cons_of_mem _ (a x hx).1, (a x hx).2⟩
        · obtain ⟨a, b⟩ := sp1_mem (s := s) (L := r) (p := p) (by rw [e]; exact List.mem_cons_of_mem _ h)
          exact ⟨fun x hx => ⟨List.mem_cons_of_mem _ (a x hx).1, (a x hx).2⟩, by rw [List.length_cons]; omega⟩
theorem sp1_len (s : Nat) : ∀ L : List Nat, (sp1 s L).length + ((sp1 s L).map (·.length)).sum = L.length + 1
  | [] => rfl
  | c :: r => by
    have ih := sp1_len s r
    unfold sp1
    split
    · simp only [List.length_cons, List.map_cons, List.length_nil, List.sum_cons]; omega
    · cases e : sp1 s r with
      | nil => exact absurd e (sp1_ne s r)
      | cons p ps =>
        rw [e] at ih
        simp only [glue, List.length_cons, List.map_cons, List.sum_cons] at ih ⊢
        omega
theorem sp1_cnt (s : Nat) (L : List Nat) : (sp1 s L).length ≤ L.length + 1 := by have := sp1_len s L; omega
theorem joinL_2 (sep p q : List Nat) (l : List (List Nat)) : TL.joinL sep (p :: q :: l) = p ++ (sep ++ TL.joinL sep (q :: l)) := rfl
theorem sp1_join (s : Nat) : ∀ L : List Nat, TL.joinL [s] (sp1 s L) = L
  | [] => rfl
  | c :: r => by
    have ih := sp1_join s r
    unfold sp1
    split
    · rename_i h
      cases e : sp1 s r with
      | nil => exact absurd e (sp1_ne s r)
      | cons p ps => rw [joinL_2, ← e, ih, h]; rfl
    · cases e : sp1 s r with
      | nil => exact absurd e (sp1_ne s r)
      | cons p ps =>
        rw [e] at ih
        cases ps with
        | nil =>
          have ih : p = r := ih
          rw [ih]; rfl
        | cons q qs =>
          rw [joinL_2] at ih
          show TL.joinL [s] ((c :: p) :: q :: qs) = _
          rw [joinL_2, List.cons_append, ih]
theorem sp1_of (s : Nat) {parts : List (List Nat)} (h0 : parts ≠ []) (h : ∀ p ∈ parts, s ∉ p) : sp1 s (TL.joinL [s] parts) = parts := by
  rw [← spl_eq]
  exact TL.spl_join h0 h
end K63

namespace K63
open PySem PySem.Spec L2 PyProof.Rows Bv
open SX (S)
structure Wv where
  r : Nat
  ss : List Sp
def Wv.d (w : Wv) : D := .tuple [.int w.r, .tuple (w.ss.map Sp.d)]
def allS : List (List Nat) → Option (List Sp)
  | [] => some []
  | w :: ws => match stepS w with
    | some s => (match allS ws with | some ss => some (s :: ss) | none => none)
    | none => none
def workC (h : List Nat) (ws : List (List Nat)) : Option Wv := match numS (h.take (h.length - 1)) with
    | none => none
    | some r => if h.drop (h.length - 1) = [58] ∧ 1 ≤ r ∧ r ≤ 9 ∧ 1 ≤ ws.length ∧ ws.length ≤ 8 then (allS ws).map (Wv.mk r) else none
theorem workC_none {h : List Nat} {ws : List (List Nat)} (e : numS (h.take (h.length - 1)) = none) : workC h ws = none := by
  unfold workC
  rw [e]
theorem workC_some {h : List Nat} {ws : List (List Nat)} {r : Nat} (e : numS (h.take (h.length - 1)) = some r) : workC h ws = if h.drop (h.length - 1) = [58] ∧ 1 ≤ r ∧ r ≤ 9 ∧ 1 ≤ ws.length ∧ ws.length ≤ 8 then (allS ws).map (Wv.mk r) else none := by
  unfold workC
  rw [e]
theorem workC_58 {h : List Nat} {ws : List (List Nat)} (e : h.drop (h.length - 1) ≠ [58]) : workC h ws = none := by
  unfold workC
  cases numS (h.take (h.length - 1)) with
  | none => rfl
  | some r => exact if_neg fun z => e z.1
def workS (L : List Nat) : Option Wv := match sp1 32 L with
  | [] => none
  | h :: ws => workC h ws
theorem workS_eq {L h : List Nat} {ws : List (List Nat)} (e : sp1 32 L = h :: ws) : workS L = workC h ws := by
  unfold workS
  rw [e]
def wD : Option Wv → D
  | some w => w.d
  | none => .none
theorem numS_dig {x : List Nat} {n : Nat} (h : numS x = some n) : (∀ c ∈ x, dig c = true) ∧ n ≤ 99 := by
  match x, h with
  | [a], h =>
    rw [numS_1] at h
    split at h
    · rename_i hd
      cases h
      refine ⟨fun c hc => by rw [List.mem_singleton.mp hc]; exact hd, ?_⟩
      have := of_decide_eq_true (show decide (48 ≤ a ∧ a ≤ 57) = true from hd)
      omega
    · cases h
  | [a, b], h =>
    rw [numS_2] at h
    split at h
    · rename_i hd
      cases h
      refine ⟨fun c hc => ?_, ?_⟩
      · rcases List.mem_cons.mp hc with rfl | hc
        · exact hd.1
        · rw [List.mem_singleton.mp hc]; exact hd.2.1
      · have := of_decide_eq_true (show decide (48 ≤ a ∧ a ≤ 57) = true from hd.1)
        have := of_decide_eq_true (show decide (48 ≤ b ∧ b ≤ 57) = true from hd.2.1)
        omega
    · cases h
  | [], h => cases h
  | _ :: _ :: _ :: _, h => cases h
def lwb : Env' → Res := (sseq (asg 5 [] (lstD (splitM (var 4) (cst (.str "-")))))
      (sif [] (tor (asB (bi2 dEq (var 4) (cst (.str "do")))) (asB (bi2 dEq (var 4) (cst (.str "wait")))))
        (app 3 [] (tupD (acons (var 4) anil)))
        (sif [] (tand (asB (bi2 dEq (bi2 dIx (var 5) (cst (.int 0))) (cst (.str "send")))) (tand (asB (bi2 dEq (cal dLen (acons (var 5) anil)) (cst (.int 2)))) (asB (bi2 dIsNot (cal f_law_number (acons (bi2 dIx (var 5) (cst (.int 1))) anil)) (cst .none)))))
          (app 3 [] (tupD (acons (cst (.str "send")) (acons (cal f_law_number (acons (bi2 dIx (var 5) (cst (.int 1))) anil)) anil))))
          (Bv.ret [] (cst .none)))))
theorem app1 {j : Nat} {M : List Nat} {f : Vw → Rv D} {ρ : Env'} {xs : List D} {d : D} (h : ρ[j]? = some (.ow 1 (.list xs))) (hf : f (vw M ρ) = .ok d) (hi : imm d = true) (hl : xs.length < 16000000) : app j M f ρ = .nx (ρ.set j (.ow 1 (.list (xs ++ [d])))) := by
  rw [app_at (n := 0) h, hf]
  simp only [Rv.st_ok]
  rw [if_pos ⟨hl, .inl hi⟩, if_pos hi]
theorem sp_imm (s : Sp) : imm s.d = true := by cases s <;> rfl
theorem lwb_at (a0 a1 a2 : D) {acc : List D} (ha : acc.length < 16000000) {w : List Nat} (h : w.length ≤ 1000000) (h8 : Asc w) (e5 : Sl) :
    ∃ e5', lwb [.fz a0, .fz a1, .fz a2, .ow 1 (.list acc), .fz (.str (S w)), e5] = match stepS w with
      | some s => .nx [.fz a0, .fz a1, .fz a2, .ow 1 (.list (acc ++ [s.d])), .fz (.str (S w)), e5']
      | none => .rt .none := by
  have hsp := dSplit_S (s := 45) (by decide) w h
  refine ⟨.fz (.list ((sp1 45 w).map fun p => .str (S p))), ?_⟩
  unfold lwb
  by_cases h1 : w = [100, 111]
  · subst h1
    have hst : stepS [100, 111] = some .dow := rfl
    rw [hst]
    simp -implicitDefEqProofs [splitM, isStr, S_mi, hsp, S_do]
    rw [app1 (xs := acc) (d := Sp.dow.d) rfl (by simp [Sp.d, S_do]) rfl ha]
    simp only [List.set_cons_zero, List.set_cons_succ]
  by_cases h2 : w = [119, 97, 105, 116]
  · subst h2
    have hst : stepS [119, 97, 105, 116] = some .wai := rfl
    have hne : ¬ (S [119, 97, 105, 116] = S [100, 111]) := by rw [S_eq]; decide
    rw [hst]
    simp -implicitDefEqProofs [splitM, isStr, S_mi, hsp, S_do, S_wait, hne]
    rw [app1 (xs := acc) (d := Sp.wai.d) rfl (by simp [Sp.d, S_wait]) rfl ha]
    simp only [List.set_cons_zero, List.set_cons_succ]
  have q1 : ¬ (S w = S [100, 111]) := by rw [S_eq]; exact h1
  have q2 : ¬ (S w = S [119, 97, 105, 116]) := by rw [S_eq]; exact h2
  by_cases h3 : w.take 5 = [115, 101, 110, 100, 45]
  · obtain ⟨x, rfl⟩ : ∃ x, w = 115 :: 101 :: 110 :: 100 :: 45 :: x := ⟨w.drop 5, by rw [← List.take_append_drop 5 w, h3]; rfl⟩
    have hst : stepS (115 :: 101 :: 110 :: 100 :: 45 :: x) = (numS x).map .snd := by
      unfold stepS
      rw [if_neg h1, if_neg h2, if_pos h3]
      rfl
    have hx : ∀ c ∈ x, c ∈ (115 :: 101 :: 110 :: 100 :: 45 :: x) := fun c hc => by simp [hc]
    have e1 : sp1 45 (115 :: 101 :: 110 :: 100 :: 45 :: x) = [115, 101, 110, 100] :: sp1 45 x := by simp [sp1, glue]
    rw [e1] at hsp
    have hj := sp1_join 45 x
    have hxl : x.length ≤ 1000000 := by simp only [List.length_cons] at h; omega
    have hnum := law_number_at x hxl fun c hc => h8 c (hx c hc)
    rw [e1, hst]
    have hfr : numS x ≠ none → sp1 45 x = [x] := fun hn => by
      cases hq : numS x with
      | none => exact absurd hq hn
      | some n =>
        have hd := (numS_dig hq).1
        exact sp1_of 45 (parts := [x]) (by simp) fun p hp hc => by
          rw [List.mem_singleton.mp hp] at hc
          exact absurd (hd 45 hc) (by decide)
    cases ey : sp1 45 x with
    | nil => exact absurd ey (sp1_ne 45 x)
    | cons y ys =>
      rw [ey] at hsp hj hfr
      cases ys with
      | nil =>
        have hj : y = x := hj
        subst hj
        have hix : ixD [(.str (S [115, 101, 110, 100]) : D), .str (S y)] 1 = .ok (.str (S y)) := by simp
        cases hn : numS y with
        | none =>
          rw [hn] at hnum
          simp -implicitDefEqProofs [splitM, isStr, S_mi, hsp, S_do, S_wait, S_send, q1, q2, hnum, oD]
        | some n =>
          rw [hn] at hnum
          simp -implicitDefEqProofs [splitM, isStr, S_mi, hsp, S_do, S_wait, S_send, q1, q2, hnum, oD]
          rw [app1 (xs := acc) (d := .tuple [.str "send", .int n]) rfl (by simp [hnum, oD, S_send]) rfl ha]
          simp only [List.set_cons_zero, List.set_cons_succ, Sp.d]
      | cons z zs =>
        have hn : numS x = none := by
          cases hq : numS x with
          | none => rfl
          | some n =>
            have := hfr (by rw [hq]; simp)
            simp at this
        rw [hn]
        have hl3 : ¬ ((zs.length : Int) + 1 + 1 + 1 = 2) := by omega
        simp -implicitDefEqProofs [splitM, isStr, S_mi, hsp, S_do, S_wait, S_send, q1, q2, hl3]
  · have hst : stepS w = none := by
      unfold stepS
      rw [if_neg h1, if_neg h2, if_neg h3]
    rw [hst]
    have hj := sp1_join 45 w
    cases ey : sp1 45 w with
    | nil => exact absurd ey (sp1_ne 45 w)
    | cons y ys =>
      rw [ey] at hsp hj
      by_cases h4 : y = [115, 101, 110, 100]
      · subst h4
        match ys, hj, hsp with
        | [], hj, hsp => simp -implicitDefEqProofs [splitM, isStr, S_mi, hsp, S_do, S_wait, S_send, q1, q2]
        | [x], hj, hsp =>
          refine absurd ?_ h3
          rw [← hj]
          rfl
        | _ :: _ :: zs, hj, hsp =>
          have hl3 : ¬ ((zs.length : Int) + 1 + 1 + 1 = 2) := by omega
          simp -implicitDefEqProofs [splitM, isStr, S_mi, hsp, S_do, S_wait, S_send, q1, q2, hl3]
      · have q4 : ¬ (S y = S [115, 101, 110, 100]) := by rw [S_eq]; exact h4
        simp -implicitDefEqProofs [splitM, isStr, S_mi, hsp, S_do, S_wait, S_send, q1, q2, q4]
end K63

namespace K63
open PySem PySem.Spec L2 PyProof.Rows Bv
open SX (S)
theorem cut_hi (xs : List D) {i : Int} (h : 0 ≤ i) : Bv.cutD xs (some i) none = xs.drop i.toNat := by
  unfold Bv.cutD
  rw [six_nat _ _ h, HT.sIx_none, List.take_of_length_le (by simp)]
  by_cases hl : i.toNat ≤ xs.length
  · rw [Nat.min_eq_left hl]
  · rw [Nat.min_eq_right (by omega), List.drop_eq_nil_of_le (by omega), List.drop_eq_nil_of_le (by omega)]
theorem wloop (a0 a1 a2 : D) : ∀ (ws : List (List Nat)) (acc : List D) (e4 e5 : Sl), (∀ w ∈ ws, w.length ≤ 1000000 ∧ Asc w) → acc.length + ws.length < 16000000 →
    ∃ e4' e5', forL (bName 4) lwb (ws.map fun w => .str (S w)) [.fz a0, .fz a1, .fz a2, .ow 1 (.list acc), e4, e5] = match allS ws with
      | some ss => .nx [.fz a0, .fz a1, .fz a2, .ow 1 (.list (acc ++ ss.map Sp.d)), e4', e5']
      | none => .rt .none
  | [], acc, e4, e5, _, _ => ⟨e4, e5, by simp [allS]⟩
  | w :: ws, acc, e4, e5, hw, hl => by
    obtain ⟨h1, h2⟩ := hw w List.mem_cons_self
    simp only [List.length_cons] at hl
    obtain ⟨e5', hb⟩ := lwb_at a0 a1 a2 (acc := acc) (by omega) h1 h2 e5
    rw [List.map_cons]
    unfold forL
    simp only [bName_def, List.set_cons_zero, List.set_cons_succ, hb]
    unfold allS
    cases hs : stepS w with
    | none => exact ⟨.un, .un, rfl⟩
    | some s =>
      obtain ⟨e4', e5'', q⟩ := wloop a0 a1 a2 ws (acc ++ [s.d]) (.fz (.str (S w))) e5' (fun x hx => hw x (List.mem_cons_of_mem _ hx)) (by rw [List.length_append]; simp only [List.length_cons, List.length_nil]; omega)
      refine ⟨e4', e5'', ?_⟩
      dsimp only
      rw [q]
      cases allS ws with
      | none => rfl
      | some ss => simp
theorem allS_len : ∀ {ws : List (List Nat)} {ss : List Sp}, allS ws = some ss → ss.length = ws.length
  | [], ss, h => by cases h; rfl
  | w :: ws, ss, h => by
    unfold allS at h
    cases hs : stepS w with
    | none => rw [hs] at h; cases h
    | some s =>
      rw [hs] at h
      cases ha : allS ws with
      | none => rw [ha] at h; cases h
      | some ss' =>
        rw [ha] at h
        cases h
        simp [allS_len ha]
theorem allS_map : ∀ (ws : List (List Nat)), (match allS ws with | some ss => ws.map (fun w => sD (stepS w)) = ss.map Sp.d | none => ∃ w ∈ ws, stepS w = none)
  | [] => rfl
  | w :: ws => by
    have ih := allS_map ws
    unfold allS
    cases hs : stepS w with
    | none => exact ⟨w, List.mem_cons_self, hs⟩
    | some s =>
      cases ha : allS ws with
      | none =>
        rw [ha] at ih
        obtain ⟨x, hx, e⟩ := ih
        exact ⟨x, List.mem_cons_of_mem _ hx, e⟩
      | some ss =>
        rw [ha] at ih
        have ih : ws.map (fun w => sD (stepS w)) = ss.map Sp.d := ih
        show (w :: ws).map (fun w => sD (stepS w)) = (s :: ss).map Sp.d
        rw [List.map_cons, List.map_cons, ih, hs]
        rfl
theorem law_work_def : m_law_work = (sseq (asg 1 [] (lstD (splitM (var 0) (cst (.str " ")))))
    (sseq (asg 2 [] (cal f_law_number (acons (slcS (bi2 dIx (var 1) (cst (.int 0))) onone (osome (una dNeg (cst (.int 1))))) anil)))
    (sseq (sif [] (tor (asB (bi2 dNe (slcS (bi2 dIx (var 1) (cst (.int 0))) (osome (una dNeg (cst (.int 1)))) onone) (cst (.str ":")))) (tor (asB (bi2 dIs (var 2) (cst .none))) (tor (tnot (asB (chn dLe dLe (cst (.int 1)) (var 2) (cst (.int 9))))) (tnot (asB (chn dLe dLe (cst (.int 2)) (cal dLen (acons (var 1) anil)) (cst (.int 9))))))))
      (Bv.ret [] (cst .none))
      snext)
    (sseq (asgF 3 [] (lstF anil))
    (sseq (sfor [] (bName 4) (slc (var 1) (osome (cst (.int 1))) onone) lwb)
    (Bv.ret [3] (tupD (acons (var 2) (acons (cal dTuple (acons (var 3) anil)) anil))))))))) := rfl
theorem chn_b (a b c : Int) (η : Vw) : chn dLe dLe (cst (.int a)) (cst (.int b)) (cst (.int c)) η = .ok (.bool (decide (a ≤ b ∧ b ≤ c))) := by
  unfold chn
  simp only [cst_def, Rv.bind_ok, dLe_ii]
  by_cases h : a ≤ b <;> by_cases h2 : b ≤ c <;> simp [h, h2]
theorem law_work_at (L : List Nat) (h : L.length ≤ 1000000) (h8 : Asc L) : f_law_work [.str (S L)] = .ok (wD (workS L)) := by
  have hsp := dSplit_S (s := 32) (by decide) L h
  cases ey : sp1 32 L with
  | nil => exact absurd ey (sp1_ne 32 L)
  | cons y ws =>
    rw [ey, List.map_cons] at hsp
    rw [workS_eq ey]
    have hy := sp1_mem (s := 32) (L := L) (p := y) (by rw [ey]; exact List.mem_cons_self)
    have hws : ∀ w ∈ ws, w.length ≤ 1000000 ∧ Asc w := fun w hw => by
      have := sp1_mem (s := 32) (L := L) (p := w) (by rw [ey]; exact List.mem_cons_of_mem _ hw)
      exact ⟨by omega, fun c hc => h8 c (this.1 c hc).1⟩
    have hcnt := sp1_cnt 32 L
    rw [ey, List.length_cons] at hcnt
    have c1 := dSlS_S y none (some (-1)) (by omega)
    have c2 := dSlS_S y (some (-1)) none (by omega)
    rw [cutS_but] at c1
    rw [cutS_last] at c2
    have hnum := law_number_at (y.take (y.length - 1)) (by rw [List.length_take]; omega) fun c hc => h8 c (hy.1 c (List.mem_of_mem_take hc)).1
    have him := imm_oD (numS (y.take (y.length - 1)))
    unfold f_law_work
    rw [law_work_def]
    by_cases h58 : y.drop (y.length - 1) = [58]
    · cases hn : numS (y.take (y.length - 1)) with
      | none =>
        rw [hn] at hnum
        rw [workC_none hn]
        simp -implicitDefEqProofs [splitM, isStr, S_sp, hsp, slcS, c1, c2, hnum, S_co, h58, oD, wD]
      | some n =>
        rw [hn] at hnum
        rw [workC_some hn]
        have hlw : (ws.map fun w => (.str (S w) : D)).length = ws.length := List.length_map _
        obtain ⟨e4', e5', q⟩ := wloop (.str (S L)) (.list (.str (S y) :: ws.map fun w => .str (S w))) (.int n) ws [] .un .un hws (by simp only [List.length_nil]; omega)
        have ha1 : ((ws.length : Int) + 1 ≤ 9) = (ws.length ≤ 8) := propext ⟨fun _ => by omega, fun _ => by omega⟩
        have ha2 : ((2 : Int) ≤ (ws.length : Int) + 1) = (1 ≤ ws.length) := propext ⟨fun _ => by omega, fun _ => by omega⟩
        have hb1 : ((1 : Int) ≤ (n : Int)) = (1 ≤ n) := propext ⟨fun _ => by omega, fun _ => by omega⟩
        have hb2 : ((n : Int) ≤ 9) = (n ≤ 9) := propext ⟨fun _ => by omega, fun _ => by omega⟩
        have hcut : cutD ((.str (S y) : D) :: ws.map fun w => .str (S w)) (some 1) none = ws.map fun w => .str (S w) := cut_hi _ (by decide)
        by_cases g1 : 1 ≤ n
        · by_cases g2 : n ≤ 9
          · by_cases g3 : 1 ≤ ws.length
            · by_cases g4 : ws.length ≤ 8
              · rw [if_pos ⟨h58, g1, g2, g3, g4⟩]
                cases hall : allS ws with
                | none =>
                  rw [hall] at q
                  generalize (ws.map fun w => (.str (S w) : D)) = WS at *
                  simp -implicitDefEqProofs [splitM, isStr, S_sp, hsp, slcS, c1, c2, hnum, S_co, h58, oD, wD, chn, ha1, ha2, hb1, hb2, g1, g2, g3, g4, hlw, hcut, q]
                | some ss =>
                  rw [hall] at q
                  have i2 : immA (ss.map Sp.d) = true := immA_of fun d hd => by obtain ⟨s, _, rfl⟩ := List.mem_map.mp hd; exact sp_imm s
                  generalize (ws.map fun w => (.str (S w) : D)) = WS at *
                  simp -implicitDefEqProofs [splitM, isStr, S_sp, hsp, slcS, c1, c2, hnum, S_co, h58, oD, wD, chn, ha1, ha2, hb1, hb2, g1, g2, g3, g4, hlw, hcut, q, dTuple, i2, Wv.d]
              · rw [if_neg fun z => g4 z.2.2.2.2]
                generalize (ws.map fun w => (.str (S w) : D)) = WS at *
                simp -implicitDefEqProofs [splitM, isStr, S_sp, hsp, slcS, c1, c2, hnum, S_co, h58, oD, wD, chn, ha1, ha2, hb1, hb2, g1, g2, g3, g4, hlw]
            · rw [if_neg fun z => g3 z.2.2.2.1]
              generalize (ws.map fun w => (.str (S w) : D)) = WS at *
              simp -implicitDefEqProofs [splitM, isStr, S_sp, hsp, slcS, c1, c2, hnum, S_co, h58, oD, wD, chn, ha1, ha2, hb1, hb2, g1, g2, g3, hlw]
          · rw [if_neg fun z => g2 z.2.2.1]
            simp -implicitDefEqProofs [splitM, isStr, S_sp, hsp, slcS, c1, c2, hnum, S_co, h58, oD, wD, chn, ha1, ha2, hb1, hb2, g1, g2]
        · rw [if_neg fun z => g1 z.2.1]
          simp -implicitDefEqProofs [splitM, isStr, S_sp, hsp, slcS, c1, c2, hnum, S_co, h58, oD, wD, chn, ha1, ha2, hb1, hb2, g1]
    · have q58 : ¬ (S (y.drop (y.length - 1)) = S [58]) := by rw [S_eq]; exact h58
      rw [workC_58 h58]
      simp -implicitDefEqProofs [splitM, isStr, S_sp, hsp, slcS, c1, c2, hnum, him, S_co, q58, wD]
/-- .. by work_of -/
theorem none_in : ∀ (l : List D), (∀ d ∈ l, ∃ o : Option Sp, d = sD o) → dNotInQ .none (.list l) = .ok (.bool (l.all fun d => !isN d)) := by
  intro l hl
  have hs : shp (.list l) = true := shp_row fun d hd => by
    obtain ⟨o, rfl⟩ := hl d hd
    cases o with
    | none => exact ⟨rfl, rfl, by simp [sD, PyData.depth]⟩
    | some s =>
      cases s with
      | dow => exact ⟨by kernel_rfl, by kernel_rfl, by decide +kernel⟩
      | wai => exact ⟨by kernel_rfl, by kernel_rfl, by decide +kernel⟩
      | snd k => exact ⟨rfl, by simp [sD, Sp.d, PyData.canLay0, PyData.canLayAll0]; decide +kernel, by simp [sD, Sp.d, PyData.depth, PyData.depthAll]⟩
  have e : dInQ .none (.list l) = if shp .none = true ∧ shp (.list l) = true then .ok (.bool (l.any fun z => PyData.eqv z .none)) else .un := rfl
  unfold dNotInQ
  rw [e, if_pos ⟨by decide +kernel, hs⟩]
  have : (!(l.any fun z => PyData.eqv z .none)) = l.all fun d => !isN d := by
    clear e hs
    induction l with
    | nil => rfl
    | cons d l ih =>
      obtain ⟨o, rfl⟩ := hl d List.mem_cons_self
      have ih := ih fun d hd => hl d (List.mem_cons_of_mem _ hd)
      simp only [List.any_cons, List.all_cons, Bool.not_or, ih]
      congr 1
      cases o with
      | none => rfl
      | some s => cases s <;> rfl
  rw [← this]
  rfl
theorem work_of_at (L : List Nat) (h : L.length ≤ 1000000) (h8 : Asc L) : f_work_of [.str (S L)] = .ok (wD (workS L)) := by
  have hsp := dSplit_S (s := 32) (by decide) L h
  cases ey : sp1 32 L with
  | nil => exact absurd ey (sp1_ne 32 L)
  | cons y ws =>
    rw [ey, List.map_cons] at hsp
    rw [workS_eq ey]
    have hy := sp1_mem (s := 32) (L := L) (p := y) (by rw [ey]; exact List.mem_cons_self)
    have hws : ∀ w ∈ ws, w.length ≤ 1000000 ∧ Asc w := fun w hw => by
      have := sp1_mem (s := 32) (L := L) (p := w) (by rw [ey]; exact List.mem_cons_of_mem _ hw)
      exact ⟨by omega, fun c hc => h8 c (this.1 c hc).1⟩
    have hcnt := sp1_cnt 32 L
    rw [ey, List.length_cons] at hcnt
    have c1 := dSlS_S y none (some (-1)) (by omega)
    have c2 := dSlS_S y (some (-1)) none (by omega)
    rw [cutS_but] at c1
    rw [cutS_last] at c2
    have hnum := number_of_at (y.take (y.length - 1)) (by rw [List.length_take]; omega)
    have him := imm_oD (numS (y.take (y.length - 1)))
    have hcut : cutD ((.str (S y) : D) :: ws.map fun w => .str (S w)) (some 1) none = ws.map fun w => .str (S w) := cut_hi _ (by decide)
    have hc : ∀ η0 η1 η2 : Option D, compL (vName 4) yes (cal f_step_of (acons (var 4) anil)) (ws.map fun w => .str (S w)) [η0, η1, η2, none, none] = .ok (ws.map fun w => sD (stepS w)) := by
      intro η0 η1 η2
      refine compL_map fun w hw => ⟨_, rfl, rfl, ?_⟩
      simp [step_of_at w (hws w hw).1]
    have hni := none_in (ws.map fun w => sD (stepS w)) fun d hd => by obtain ⟨w, _, rfl⟩ := List.mem_map.mp hd; exact ⟨_, rfl⟩
    have hlw : (ws.map fun w => (.str (S w) : D)).length = ws.length := List.length_map _
    have hls : (ws.map fun w => sD (stepS w)).length = ws.length := List.length_map _
    have i3 : immA (ws.map fun w => sD (stepS w)) = true := immA_of fun d hd => by
      obtain ⟨w, _, rfl⟩ := List.mem_map.mp hd
      cases stepS w with
      | none => rfl
      | some s => exact sp_imm s
    have hmap := allS_map ws
    unfold f_work_of
    by_cases h58 : y.drop (y.length - 1) = [58]
    · cases hn : numS (y.take (y.length - 1)) with
      | none =>
        rw [hn] at hnum
        rw [workC_none hn]
        generalize (ws.map fun w => (.str (S w) : D)) = WS at *
        generalize (ws.map fun w => sD (stepS w)) = SD at *
        simp -implicitDefEqProofs [m_work_of, splitM, isStr, S_sp, hsp, slcS, c1, c2, hnum, S_co, h58, oD, wD, hcut, hc, hlw, i3, show ws.length ≤ 16000000 by omega]
      | some n =>
        rw [hn] at hnum
        rw [workC_some hn]
        have ha1 : ((ws.length : Int) ≤ 8) = (ws.length ≤ 8) := propext ⟨fun _ => by omega, fun _ => by omega⟩
        have ha2 : ((1 : Int) ≤ (ws.length : Int)) = (1 ≤ ws.length) := propext ⟨fun _ => by omega, fun _ => by omega⟩
        have hb1 : ((1 : Int) ≤ (n : Int)) = (1 ≤ n) := propext ⟨fun _ => by omega, fun _ => by omega⟩
        have hb2 : ((n : Int) ≤ 9) = (n ≤ 9) := propext ⟨fun _ => by omega, fun _ => by omega⟩
        have lw : ws.length ≤ 16000000 := by omega
        by_cases g1 : 1 ≤ n
        · by_cases g2 : n ≤ 9
          · cases hall : allS ws with
            | none =>
              rw [hall] at hmap
              obtain ⟨x, hx, ex⟩ := hmap
              have hb : ((ws.map fun w => sD (stepS w)).all fun d => !isN d) = false := by
                rw [List.all_eq_false]
                exact ⟨sD (stepS x), List.mem_map.mpr ⟨x, hx, rfl⟩, by rw [ex]; decide⟩
              rw [hb] at hni
              have ew : (if y.drop (y.length - 1) = [58] ∧ 1 ≤ n ∧ n ≤ 9 ∧ 1 ≤ ws.length ∧ ws.length ≤ 8 then (none : Option (List Sp)).map (Wv.mk n) else none) = none := by split <;> rfl
              rw [ew]
              generalize (ws.map fun w => (.str (S w) : D)) = WS at *
              generalize (ws.map fun w => sD (stepS w)) = SD at *
              simp -implicitDefEqProofs [m_work_of, splitM, isStr, S_sp, hsp, slcS, c1, c2, hnum, S_co, h58, oD, wD, hcut, hc, hlw, hls, i3, lw, chn, hb1, hb2, g1, g2, hni]
            | some ss =>
              rw [hall] at hmap
              have hmap : (ws.map fun w => sD (stepS w)) = ss.map Sp.d := hmap
              have i2 : immA (ss.map Sp.d) = true := immA_of fun d hd => by obtain ⟨s, _, rfl⟩ := List.mem_map.mp hd; exact sp_imm s
              have hb : ((ws.map fun w => sD (stepS w)).all fun d => !isN d) = true := by
                rw [hmap, List.all_eq_true]
                intro d hd
                obtain ⟨s, _, rfl⟩ := List.mem_map.mp hd
                cases s <;> rfl
              rw [hb] at hni
              have hsl := allS_len hall
              generalize (ws.map fun w => (.str (S w) : D)) = WS at *
              rw [hmap] at hni hc hls i3
              clear hmap
              generalize hSD : ss.map Sp.d = SD at *
              by_cases g3 : 1 ≤ ws.length
              · by_cases g4 : ws.length ≤ 8
                · rw [if_pos ⟨h58, g1, g2, g3, g4⟩]
                  simp -implicitDefEqProofs [m_work_of, splitM, isStr, S_sp, hsp, slcS, c1, c2, hnum, S_co, h58, oD, wD, hcut, hc, hlw, hls, i3, lw, chn, hb1, hb2, g1, g2, hni, ha1, ha2, g3, g4, dTuple, Wv.d, hSD]
                · rw [if_neg fun z => g4 z.2.2.2.2]
                  simp -implicitDefEqProofs [m_work_of, splitM, isStr, S_sp, hsp, slcS, c1, c2, hnum, S_co, h58, oD, wD, hcut, hc, hlw, hls, i3, lw, chn, hb1, hb2, g1, g2, hni, ha1, ha2, g3, g4]
              · rw [if_neg fun z => g3 z.2.2.2.1]
                simp -implicitDefEqProofs [m_work_of, splitM, isStr, S_sp, hsp, slcS, c1, c2, hnum, S_co, h58, oD, wD, hcut, hc, hlw, hls, i3, lw, chn, hb1, hb2, g1, g2, hni, ha1, ha2, g3]
          · rw [if_neg fun z => g2 z.2.2.1]
            generalize (ws.map fun w => (.str (S w) : D)) = WS at *
            generalize (ws.map fun w => sD (stepS w)) = SD at *
            simp -implicitDefEqProofs [m_work_of, splitM, isStr, S_sp, hsp, slcS, c1, c2, hnum, S_co, h58, oD, wD, hcut, hc, hlw, i3, lw, chn, hb1, hb2, g1, g2]
        · rw [if_neg fun z => g1 z.2.1]
          generalize (ws.map fun w => (.str (S w) : D)) = WS at *
          generalize (ws.map fun w => sD (stepS w)) = SD at *
          simp -implicitDefEqProofs [m_work_of, splitM, isStr, S_sp, hsp, slcS, c1, c2, hnum, S_co, h58, oD, wD, hcut, hc, hlw, i3, lw, chn, hb1, hb2, g1]
    · have q58 : ¬ (S (y.drop (y.length - 1)) = S [58]) := by rw [S_eq]; exact h58
      have lw : ws.length ≤ 16000000 := by omega
      rw [workC_58 h58]
      generalize (ws.map fun w => (.str (S w) : D)) = WS at *
      generalize (ws.map fun w => sD (stepS w)) = SD at *
      simp -implicitDefEqProofs [m_work_of, splitM, isStr, S_sp, hsp, slcS, c1, c2, hnum, him, S_co, q58, wD, hcut, hc, hlw, i3, lw]
end K63

namespace K63
open PySem PySem.Spec L2 PyProof.Rows Bv
open SX (S)
def Sp.ok : Sp → Prop
  | .snd k => k ≤ 99
  | _ => True
structure Wv.ok (w : Wv) : Prop where
  r1 : 1 ≤ w.r
  r9 : w.r ≤ 9
  l1 : 1 ≤ w.ss.length
  l8 : w.ss.length ≤ 8
  so : ∀ s ∈ w.ss, s.ok
theorem stepS_ok {w : List Nat} {s : Sp} (h : stepS w = some s) : s.ok := by
  unfold stepS at h
  split at h
  · cases h; trivial
  split at h
  · cases h; trivial
  split at h
  · cases e : numS (w.drop 5) with
    | none => rw [e] at h; cases h
    | some n => rw [e] at h; cases h; exact (numS_dig e).2
  · cases h
theorem allS_ok : ∀ {ws : List (List Nat)} {ss : List Sp}, allS ws = some ss → ∀ s ∈ ss, s.ok
  | [], ss, h => by cases h; intro s hs; cases hs
  | w :: ws, ss, h => by
    unfold allS at h
    cases hs : stepS w with
    | none => rw [hs] at h; cases h
    | some s =>
      rw [hs] at h
      cases ha : allS ws with
      | none => rw [ha] at h; cases h
      | some ss' =>
        rw [ha] at h
        cases h
        intro x hx
        rcases List.mem_cons.mp hx with rfl | hx
        · exact stepS_ok hs
        · exact allS_ok ha x hx
theorem workS_ok {L : List Nat} {w : Wv} (h : workS L = some w) : w.ok := by
  cases ey : sp1 32 L with
  | nil => exact absurd ey (sp1_ne 32 L)
  | cons y ws =>
    rw [workS_eq ey] at h
    cases hn : numS (y.take (y.length - 1)) with
    | none => rw [workC_none hn] at h; cases h
    | some r =>
      rw [workC_some hn] at h
      split at h
      · rename_i hc
        cases ha : allS ws with
        | none => rw [ha] at h; cases h
        | some ss =>
          rw [ha] at h
          cases h
          have := allS_len ha
          exact ⟨hc.2.1, hc.2.2.1, by show 1 ≤ ss.length; omega, by show ss.length ≤ 8; omega, allS_ok ha⟩
      · cases h
theorem isi_i (i : Int) : isiD "int" (.int i) = .ok (.bool true) := by rfl
theorem isi_b (i : Int) : isiD "bool" (.int i) = .ok (.bool false) := by rfl
theorem isi_t (xs : List D) : isiD "tuple" (.tuple xs) = .ok (.bool true) := by rfl
theorem is_whole_i (i : Int) : f_is_whole [.int i] = .ok (.bool true) := by simp [f_is_whole, m_is_whole, isi_i, isi_b]
theorem isi_s (x : Str) : isiD "str" (.str x) = .ok (.bool true) := by rfl
theorem is_step_at : ∀ s : Sp, f_is_step [s.d] = .ok (.bool true)
  | .dow => by kernel_rfl
  | .wai => by kernel_rfl
  | .snd k => by
    have h1 : dEq (.tuple [.str (S [115, 101, 110, 100]), .int k]) (.tuple []) = .ok (.bool false) := by
      have hs : shp (.tuple [.str (S [115, 101, 110, 100]), .int k]) = true := by
        simp [shp, nodict, nodictA, SeqAt.shaped, PyData.canLay0, PyData.canLayAll0, PyData.depth, PyData.depthAll]
        decide +kernel
      show (if shp _ = true ∧ shp _ = true then _ else _) = _
      rw [if_pos ⟨hs, by decide +kernel⟩]
      rfl
    have h2 : dInQ (.str (S [115, 101, 110, 100])) (.tuple [.str (S [100, 111]), .str (S [119, 97, 105, 116])]) = .ok (.bool false) := by rw [in_words]; kernel_rfl
    simp -implicitDefEqProofs [f_is_step, m_is_step, Sp.d, S_do, S_wait, S_send, isi_t, h1, isi_s, h2, is_whole_i]
theorem is_work_at (w : Wv) (h : w.ok) : f_is_work [w.d] = .ok (.bool true) := by
  have h1 := h.l1
  have h8 := h.l8
  have hc : ∀ η0 : Option D, compL (vName 1) yes (cal f_is_step (acons (var 1) anil)) (w.ss.map Sp.d) [η0, none] = .ok ((w.ss.map fun _ => true).map .bool) := by
    intro η0
    rw [List.map_map]
    exact compL_map fun s _ => ⟨_, rfl, rfl, by simp [is_step_at]⟩
  have ha := dAll_b (w.ss.map fun _ => true)
  have ht : (w.ss.map fun _ => true).all id = true := by simp
  rw [ht, List.map_map] at ha
  have b1 : decide ((1 : Int) ≤ (w.r : Int)) = true := decide_eq_true (by have := h.r1; omega)
  have b2 : decide ((w.r : Int) ≤ 9) = true := decide_eq_true (by have := h.r9; omega)
  have d1 : decide ((1 : Int) ≤ (w.ss.length : Int)) = true := decide_eq_true (by omega)
  have d2 : decide ((w.ss.length : Int) ≤ 8) = true := decide_eq_true (by omega)
  simp -implicitDefEqProofs [f_is_work, m_is_work, Wv.d, isi_t, is_whole_i, chn, b1, b2, d1, d2, hc, ha, show w.ss.length ≤ 16000000 by omega]
def Sp.isSnd : Sp → Bool
  | .snd _ => true
  | _ => false
def Sp.num : Sp → Int
  | .snd k => k
  | _ => 0
def Wv.snds (w : Wv) : List Int := (w.ss.filter Sp.isSnd).map Sp.num
theorem do_send : ¬ (Str.ofString "do" = Str.ofString "send") := by decide +kernel
theorem wait_send : ¬ (Str.ofString "wait" = Str.ofString "send") := by decide +kernel
theorem sent_by_at (w : Wv) (h : w.ok) : f_sent_by [w.d] = .ok (.list (w.snds.map .int)) := by
  have h8 := h.l8
  have hc : ∀ η0 : Option D, compL (vName 1) (asB (bi2 dEq (bi2 dIx (var 1) (cst (.int 0))) (cst (.str "send")))) (bi2 dIx (var 1) (cst (.int 1))) (w.ss.map Sp.d) [η0, none] = .ok ((w.ss.filter Sp.isSnd).map fun s => .int s.num) := by
    intro η0
    refine compL_filter fun s _ => ⟨_, rfl, ?_, ?_⟩
    · cases s <;> simp [Sp.d, Sp.isSnd, do_send, wait_send]
    · cases s <;> simp [Sp.d, Sp.isSnd, Sp.num]
  have e : w.snds.map (PyData.int) = (w.ss.filter Sp.isSnd).map fun s => (.int s.num : D) := by unfold Wv.snds; rw [List.map_map]; rfl
  rw [e]
  unfold Wv.d
  simp -implicitDefEqProofs [f_sent_by, m_sent_by, hc, show w.ss.length ≤ 16000000 by omega]
theorem snds_len (w : Wv) (h : w.ok) : w.snds.length ≤ 8 := by
  have := List.length_filter_le Sp.isSnd w.ss
  have := h.l8
  unfold Wv.snds
  rw [List.length_map]
  omega
def jobV (ws : List Wv) : D := .tuple (ws.map Wv.d)
def jbody : Env' → Res := sseq (sif [] (tnot (asB (cal dAll (acons (lstD (cmp [4] (vName 4) yes (bi2 dGt (var 4) (var 2)) (srcE (cal f_sent_by (acons (bi2 dIx (var 0) (var 2)) anil))))) anil))))
        (Bv.ret [] (cst (.bool false)))
        snext)
      (ext 1 [] (cal f_sent_by (acons (bi2 dIx (var 0) (var 2)) anil)))
theorem jbody_at (ws : List Wv) (i : Nat) (w : Wv) (hok : w.ok) (hi : ws[i]? = some w) (F : List Int) (hF : F.length ≤ 1000) :
    jbody [.fz (jobV ws), .ow 1 (.list (F.map .int)), .fz (.int (0 + (i : Nat))), .un, .un] = (if w.snds.all (fun c => decide ((i : Int) < c)) = true then .nx [.fz (jobV ws), .ow 1 (.list ((F ++ w.snds).map .int)), .fz (.int (0 + (i : Nat))), .un, .un] else .rt (.bool false)) := by
  have hx : ixD (ws.map Wv.d) i = .ok w.d := ixD_nat (by omega) (by rw [show (i : Int).toNat = i by omega, List.getElem?_map, hi]; rfl)
  have hs := sent_by_at w hok
  have hl := snds_len w hok
  have hc : ∀ η0 : Option D, compL (vName 4) yes (bi2 dGt (var 4) (var 2)) (w.snds.map .int) [η0, none, some (.int i), none, none] = .ok ((w.snds.map fun c => decide ((i : Int) < c)).map .bool) := by
    intro η0
    rw [List.map_map]
    exact compL_map fun c hc => ⟨_, rfl, rfl, by simp⟩
  have ha := dAll_b (w.snds.map fun c => decide ((i : Int) < c))
  rw [List.all_map] at ha
  have hm := immA_ints w.snds
  have e0 : (0 : Int) + (i : Nat) = i := by omega
  rw [e0]
  unfold jobV
  generalize (w.snds.map fun c => decide ((i : Int) < c)).map PyData.bool = B at hc ha
  simp -implicitDefEqProofs only [jbody, sseq_def]
  cases hb : w.snds.all (fun c => decide ((i : Int) < c)) with
  | false =>
    have ha : dAll [.list B] = .ok (.bool false) := by rw [ha]; exact congrArg _ (congrArg _ hb)
    simp -implicitDefEqProofs [hx, hs, hc, ha, show w.snds.length ≤ 16000000 by omega]
  | true =>
    have ha : dAll [.list B] = .ok (.bool true) := by rw [ha]; exact congrArg _ (congrArg _ hb)
    simp -implicitDefEqProofs [hx, hs, hc, ha, show w.snds.length ≤ 16000000 by omega]
    rw [extend_at (n := 0) (xs := F.map .int) (es := w.snds.map .int) rfl (by simp [hx, hs]) (by simp only [List.length_map]; omega) hm]
    simp
theorem is_job_def : m_is_job = sseq (sif [] (tor (tnot (asB (isi "tuple" (var 0)))) (tnot (asB (chn dLe dLe (cst (.int 1)) (cal dLen (acons (var 0) anil)) (cst (.int 12))))))
      (Bv.ret [] (cst (.bool false)))
      snext)
    (sseq (sif [] (tnot (asB (cal dAll (acons (lstD (cmp [3] (vName 3) yes (cal f_is_work (acons (var 3) anil)) (srcE (var 0)))) anil))))
      (Bv.ret [] (cst (.bool false)))
      snext)
    (sseq (asgF 1 [] (lstF anil))
    (sseq (sforR rng1 [] (bName 2) (acons (cal dLen (acons (var 0) anil)) anil) jbody)
    (Bv.ret [1] (bi2 dEq (lstD (calF dSortedA (acons (var 1) anil))) (lstD (rgF (cst (.int 1)) (cal dLen (acons (var 0) anil))))))))) := rfl
theorem is_job_at (ws : List Wv) (h : ∀ w ∈ ws, w.ok) (hl : ws.length ≤ 1000000) : ∃ b, f_is_job [jobV ws] = .ok (.bool b) ∧ (b = true → ws.length ≤ 12) := by
  by_cases hn : 1 ≤ ws.length ∧ ws.length ≤ 12
  · have hw : ∀ η0 : Option D, compL (vName 3) yes (cal f_is_work (acons (var 3) anil)) (ws.map Wv.d) [η0, none, none, none, none] = .ok ((ws.map fun _ => true).map .bool) := by
      intro η0
      rw [List.map_map]
      exact compL_map fun w hw => ⟨_, rfl, rfl, by simp [is_work_at w (h w hw)]⟩
    have ha := dAll_b (ws.map fun _ => true)
    have ht : (ws.map fun _ => true).all id = true := by simp
    rw [ht, List.map_map] at ha
    have d1 : decide ((1 : Int) ≤ (ws.length : Int)) = true := decide_eq_true (by omega)
    have d2 : decide ((ws.length : Int) ≤ 12) = true := decide_eq_true (by omega)
    have hrg := rng1_nat (n := ws.length) (by omega)
    have e0 : jobV ws = .tuple (ws.map Wv.d) := rfl
    rcases forL_ixR (b := bName 2) (g := jbody) (fun k ρ => ∃ (F : List Int) (e2 : Sl), F.length ≤ 8 * k ∧ ρ = [.fz (jobV ws), .ow 1 (.list (F.map .int)), e2, .un, .un]) (fun r => r = .bool false) (xs := rangeD 0 (ws.length : Nat)) (k := 0) (ρ := [.fz (jobV ws), .ow 1 (.list []), .un, .un, .un])
      ⟨[], .un, by simp, rfl⟩ (by
        rintro i d hi ρ ⟨F, e2, hF, rfl⟩
        obtain ⟨rfl, hlt⟩ := range_at hi
        have hi : i < ws.length := by omega
        have hwi : ws[i]? = some ws[i] := List.getElem?_eq_getElem hi
        have hok := h _ (List.getElem_mem hi)
        have hb := jbody_at ws i ws[i] hok hwi F (by omega)
        have h8 := snds_len _ hok
        refine ⟨_, rfl, ?_⟩
        simp only [List.set_cons_zero, List.set_cons_succ]
        rw [hb]
        split
        · exact .inl ⟨_, rfl, F ++ ws[i].snds, _, by rw [List.length_append]; omega, rfl⟩
        · exact .inr ⟨_, rfl, rfl⟩) with ⟨ρ', q, F, e2, hF, rfl⟩ | ⟨r, q, rfl⟩
    · obtain ⟨ns, en⟩ := rangeD_isInts 1 (ws.length : Nat)
      have hso := sortedA_ints F
      refine ⟨decide (sortI F = ns), ?_, fun _ => hn.2⟩
      have he := dEq_ints (sortI F) ns
      rw [rangeD_len] at hF
      have hso : dSortedA [.list (F.map .int)] = .ok ((sortI F).map .int) := hso
      have hrF : ∀ η : Vw, η[0]? = some (some (.tuple (ws.map Wv.d))) → rgF (cst (.int 1)) (cal dLen (acons (var 0) anil)) η = .ok (ns.map .int) := fun η hη => by
        rw [rgF_at (a := 1) (b := ws.length) rfl (by simp [hη]) (by omega) (by omega) (by omega), en]
      unfold f_is_job
      rw [is_job_def]
      rw [e0] at q ⊢
      simp -implicitDefEqProofs [isi_t, chn, d1, d2, hw, ha, show ws.length ≤ 16000000 by omega, hrg, q, hso, hrF, he]
    · refine ⟨false, ?_, fun z => by cases z⟩
      unfold f_is_job
      rw [is_job_def]
      rw [e0] at q ⊢
      simp -implicitDefEqProofs [isi_t, chn, d1, d2, hw, ha, show ws.length ≤ 16000000 by omega, hrg, q]
  · refine ⟨false, ?_, fun z => by cases z⟩
    unfold f_is_job jobV
    rw [is_job_def]
    cases d1 : decide ((1 : Int) ≤ (ws.length : Int)) with
    | false => simp -implicitDefEqProofs [isi_t, chn, d1]
    | true =>
      have d2 : decide ((ws.length : Int) ≤ 12) = false := decide_eq_false fun z => hn ⟨by have := of_decide_eq_true d1; omega, by omega⟩
      simp -implicitDefEqProofs [isi_t, chn, d1, d2]
end K63

namespace K63
open PySem PySem.Spec L2 PyProof.Rows Bv
open SX (S)
def rdS : Nat → List (List Nat) → Sum Nat (List Wv)
  | _, [] => .inr []
  | k, l :: ls => match workS l with
    | none => .inl k
    | some w => (match rdS (k + 1) ls with | .inl j => .inl j | .inr ws => .inr (w :: ws))
theorem wv_imm (w : Wv) : imm w.d = true := by
  have i2 : immA (w.ss.map Sp.d) = true := immA_of fun d hd => by obtain ⟨s, _, rfl⟩ := List.mem_map.mp hd; exact sp_imm s
  simp [Wv.d, i2]
def lrb : Env' → Res := (sseq (asg 5 [] (cal f_law_work (acons (var 4) anil)))
      (sseq (sif [] (asB (bi2 dIs (var 5) (cst .none)))
        (Bv.ret [] (tupD (acons (var 3) (acons (cst .none) anil))))
        snext)
      (app 2 [] (var 5))))
theorem lrb_at (a0 a1 : D) {acc : List D} (ha : acc.length < 16000000) {l : List Nat} (h : l.length ≤ 1000000) (h8 : Asc l) (k : Nat) (e5 : Sl) :
    ∃ e5', lrb [.fz a0, .fz a1, .ow 1 (.list acc), .fz (.int k), .fz (.str (S l)), e5] = match workS l with
      | some w => .nx [.fz a0, .fz a1, .ow 1 (.list (acc ++ [w.d])), .fz (.int k), .fz (.str (S l)), e5']
      | none => .rt (.tuple [.int k, .none]) := by
  have hw := law_work_at l h h8
  unfold lrb
  cases e : workS l with
  | none =>
    rw [e] at hw
    refine ⟨.un, ?_⟩
    simp -implicitDefEqProofs [hw, wD]
  | some w =>
    rw [e] at hw
    have hi := wv_imm w
    have hN : isN w.d = false := rfl
    refine ⟨.fz w.d, ?_⟩
    simp -implicitDefEqProofs [hw, wD, hi, hN]
    rw [append1 (xs := acc) (d := w.d) rfl (by simp) hi ha]
    simp only [List.set_cons_zero, List.set_cons_succ]
theorem lrloop (a0 a1 : D) : ∀ (ls : List (List Nat)) (k : Nat) (acc : List D) (e3 e4 e5 : Sl), (∀ l ∈ ls, l.length ≤ 1000000 ∧ Asc l) → acc.length + ls.length < 16000000 →
    ∃ e3' e4' e5', forL (bTup [3, 4]) lrb (pairs k (ls.map fun l => .str (S l))) [.fz a0, .fz a1, .ow 1 (.list acc), e3, e4, e5] = match rdS k ls with
      | .inr ws => .nx [.fz a0, .fz a1, .ow 1 (.list (acc ++ ws.map Wv.d)), e3', e4', e5']
      | .inl j => .rt (.tuple [.int j, .none])
  | [], k, acc, e3, e4, e5, _, _ => ⟨e3, e4, e5, by simp [rdS, pairs]⟩
  | l :: ls, k, acc, e3, e4, e5, hl, hn => by
    obtain ⟨h1, h2⟩ := hl l List.mem_cons_self
    simp only [List.length_cons] at hn
    obtain ⟨e5', hb⟩ := lrb_at a0 a1 (acc := acc) (by omega) h1 h2 k e5
    rw [List.map_cons]
    show ∃ e3' e4' e5', forL (bTup [3, 4]) lrb (.tuple [.int (k : Nat), .str (S l)] :: pairs (k + 1) (ls.map fun l => .str (S l))) _ = _
    unfold forL
    have hbt : bTup [3, 4] (.tuple [.int (k : Nat), .str (S l)]) [.fz a0, .fz a1, .ow 1 (.list acc), e3, e4, e5] = some [.fz a0, .fz a1, .ow 1 (.list acc), .fz (.int k), .fz (.str (S l)), e5] := rfl
    simp only [hbt, hb]
    unfold rdS
    cases hw : workS l with
    | none => exact ⟨.un, .un, .un, rfl⟩
    | some w =>
      obtain ⟨e3', e4', e5'', q⟩ := lrloop a0 a1 ls (k + 1) (acc ++ [w.d]) (.fz (.int k)) (.fz (.str (S l))) e5' (fun x hx => hl x (List.mem_cons_of_mem _ hx)) (by rw [List.length_append]; simp only [List.length_cons, List.length_nil]; omega)
      refine ⟨e3', e4', e5'', ?_⟩
      dsimp only
      rw [q]
      cases rdS (k + 1) ls with
      | inl j => rfl
      | inr ws => simp
def rbody : Env' → Res := sseq (asg 4 [] (cal f_work_of (acons (bi2 dIx (var 1) (var 3)) anil)))
      (sseq (sif [] (asB (bi2 dIs (var 4) (cst .none)))
        (rai "NoText" "line" (var 3))
        snext)
      (app 2 [] (var 4)))
theorem rbody_at (a0 : D) (ld : List D) {acc : List D} (ha : acc.length < 16000000) {l : List Nat} (h : l.length ≤ 1000000) (h8 : Asc l) (k : Nat) (hk : ld[k]? = some (.str (S l))) (e4 : Sl) :
    ∃ e4', rbody [.fz a0, .fz (.list ld), .ow 1 (.list acc), .fz (.int k), e4] = match workS l with
      | some w => .nx [.fz a0, .fz (.list ld), .ow 1 (.list (acc ++ [w.d])), .fz (.int k), e4']
      | none => .xc ⟨"NoText", [("line", .int k)]⟩ := by
  have hw := work_of_at l h h8
  have hx : ixD ld k = .ok (.str (S l)) := ixD_nat (by omega) (by rw [Int.toNat_natCast]; exact hk)
  unfold rbody
  cases e : workS l with
  | none =>
    rw [e] at hw
    refine ⟨.un, ?_⟩
    simp -implicitDefEqProofs [hx, hw, wD, rai]
  | some w =>
    rw [e] at hw
    have hi := wv_imm w
    have hN : isN w.d = false := rfl
    refine ⟨.fz w.d, ?_⟩
    simp -implicitDefEqProofs [hx, hw, wD, hi, hN]
    rw [append1 (xs := acc) (d := w.d) rfl (by simp) hi ha]
    simp only [List.set_cons_zero, List.set_cons_succ]
def upN : Nat → Nat → List D
  | _, 0 => []
  | k, n + 1 => .int (k : Nat) :: upN (k + 1) n
theorem upN_range : ∀ (n k : Nat), upN k n = (List.range n).map fun i => (.int ((k + i : Nat) : Int) : D)
  | 0, k => rfl
  | n + 1, k => by
    rw [upN, upN_range n (k + 1), List.range_succ_eq_map, List.map_cons, List.map_map]
    congr 1
    exact List.map_congr_left fun i _ => by simp only [Function.comp_def]; congr 2; omega
theorem rloop (a0 : D) (ld : List D) : ∀ (ls : List (List Nat)) (k : Nat) (acc : List D) (e3 e4 : Sl), (∀ l ∈ ls, l.length ≤ 1000000 ∧ Asc l) → acc.length + ls.length < 16000000 → (∀ (i : Nat) (l : List Nat), ls[i]? = some l → ld[k + i]? = some (.str (S l))) →
    ∃ e3' e4', forL (bName 3) rbody (upN k ls.length) [.fz a0, .fz (.list ld), .ow 1 (.list acc), e3, e4] = match rdS k ls with
      | .inr ws => .nx [.fz a0, .fz (.list ld), .ow 1 (.list (acc ++ ws.map Wv.d)), e3', e4']
      | .inl j => .xc ⟨"NoText", [("line", .int j)]⟩
  | [], k, acc, e3, e4, _, _, _ => ⟨e3, e4, by simp [rdS, upN]⟩
  | l :: ls, k, acc, e3, e4, hl, hn, hx => by
    obtain ⟨h1, h2⟩ := hl l List.mem_cons_self
    simp only [List.length_cons] at hn
    obtain ⟨e4', hb⟩ := rbody_at a0 ld (acc := acc) (by omega) h1 h2 k (by simpa using hx 0 l rfl) e4
    rw [List.length_cons, upN]
    unfold forL
    simp only [bName_def, List.set_cons_zero, List.set_cons_succ, hb]
    unfold rdS
    cases hw : workS l with
    | none => exact ⟨.un, .un, rfl⟩
    | some w =>
      obtain ⟨e3', e4'', q⟩ := rloop a0 ld ls (k + 1) (acc ++ [w.d]) (.fz (.int k)) e4' (fun x hx => hl x (List.mem_cons_of_mem _ hx)) (by rw [List.length_append]; simp only [List.length_cons, List.length_nil]; omega) (fun i l' hi => by
        have := hx (i + 1) l' (by simpa using hi)
        rw [show k + 1 + i = k + (i + 1) by omega]
        exact this)
      refine ⟨e3', e4'', ?_⟩
      dsimp only
      rw [q]
      cases rdS (k + 1) ls with
      | inl j => rfl
      | inr ws => simp
theorem rdS_ok : ∀ {ls : List (List Nat)} {k : Nat} {ws : List Wv}, rdS k ls = .inr ws → (∀ w ∈ ws, w.ok) ∧ ws.length = ls.length
  | [], k, ws, h => by cases h; exact ⟨fun w hw => (by cases hw), rfl⟩
  | l :: ls, k, ws, h => by
    unfold rdS at h
    cases hw : workS l with
    | none => rw [hw] at h; cases h
    | some w =>
      rw [hw] at h
      cases hr : rdS (k + 1) ls with
      | inl j => rw [hr] at h; cases h
      | inr ws' =>
        rw [hr] at h
        cases h
        obtain ⟨a, b⟩ := rdS_ok hr
        refine ⟨fun x hx => ?_, by simp [b]⟩
        rcases List.mem_cons.mp hx with rfl | hx
        · exact workS_ok hw
        · exact a x hx
theorem rdS_lt : ∀ {ls : List (List Nat)} {k j : Nat}, rdS k ls = .inl j → j < k + ls.length
  | [], k, j, h => by cases h
  | l :: ls, k, j, h => by
    unfold rdS at h
    cases hw : workS l with
    | none => rw [hw] at h; cases h; rw [List.length_cons]; omega
    | some w =>
      rw [hw] at h
      cases hr : rdS (k + 1) ls with
      | inl j' =>
        rw [hr] at h
        cases h
        have := rdS_lt hr
        rw [List.length_cons]; omega
      | inr ws' => rw [hr] at h; cases h
end K63

namespace K63
open PySem PySem.Spec L2 PyProof.Rows Bv
open SX (S)
theorem rows_flat {xs : List D} {n : Nat} (h : ∀ d ∈ xs, nodict d = true ∧ PyData.canLay0 d = true ∧ d.depth ≤ n) : nodictA xs = true ∧ PyData.canLayAll0 xs = true ∧ PyData.depthAll xs ≤ n := by
  induction xs with
  | nil => exact ⟨rfl, rfl, by simp [PyData.depthAll]⟩
  | cons x xs ih =>
    obtain ⟨a, b, c⟩ := ih fun d hd => h d (List.mem_cons_of_mem _ hd)
    obtain ⟨a', b', c'⟩ := h x List.mem_cons_self
    refine ⟨by simp [nodictA, a, a'], by simp [PyData.canLayAll0, b, b'], by simp only [PyData.depthAll]; omega⟩
theorem sp_flat : ∀ s : Sp, nodict s.d = true ∧ PyData.canLay0 s.d = true ∧ s.d.depth ≤ 4
  | .dow => by decide +kernel
  | .wai => by decide +kernel
  | .snd k => by simp [Sp.d, nodict, nodictA, PyData.canLay0, PyData.canLayAll0, PyData.depth, PyData.depthAll]; decide +kernel
theorem wv_flat (w : Wv) : nodict w.d = true ∧ PyData.canLay0 w.d = true ∧ w.d.depth ≤ 20 := by
  obtain ⟨a, b, c⟩ := rows_flat (xs := w.ss.map Sp.d) (n := 4) fun d hd => by obtain ⟨s, _, rfl⟩ := List.mem_map.mp hd; exact sp_flat s
  refine ⟨by simp [Wv.d, nodict, nodictA, a], by simp [Wv.d, PyData.canLay0, PyData.canLayAll0, b], ?_⟩
  simp only [Wv.d, PyData.depth, PyData.depthAll]
  omega
theorem sp_shw (s : Sp) (h : s.ok) : Shw 1 200 s.d := by
  have hs : ∀ x : List Nat, Asc x → x.length ≤ 20 → Shw 0 40 (.str (S x)) := fun x hx hl => by
    refine ⟨rfl, rfl, by simp [PyData.depth], ?_, ?_⟩
    · simp only [PyData.leavesShort]
      show x.all (fun c => decide (c < 16 ^ 8)) = true
      rw [List.all_eq_true]
      intro c hc
      have := hx c hc
      exact decide_eq_true (by omega)
    · simp only [PyData.weight]
      show x.toArray.size ≤ 40
      simp; omega
  cases s with
  | dow =>
    have := shw_tup (xs := [.str (Str.ofString "do")]) (n := 0) (m := 40) fun d hd => by
      rw [List.mem_singleton.mp hd, S_do]
      exact hs _ (by unfold Asc; decide) (by decide)
    exact this.mono (by decide) (by decide)
  | wai =>
    have := shw_tup (xs := [.str (Str.ofString "wait")]) (n := 0) (m := 40) fun d hd => by
      rw [List.mem_singleton.mp hd, S_wait]
      exact hs _ (by unfold Asc; decide) (by decide)
    exact this.mono (by decide) (by decide)
  | snd k =>
    have hk : k ≤ 99 := h
    have := shw_tup (xs := [.str (Str.ofString "send"), .int k]) (n := 0) (m := 40) fun d hd => by
      rcases List.mem_cons.mp hd with rfl | hd
      · rw [S_send]
        exact hs _ (by unfold Asc; decide) (by decide)
      · rw [List.mem_singleton.mp hd]
        exact shw_int (by have : (k : Int).natAbs = k := rfl; omega)
    exact this.mono (by decide) (by simp)
theorem wv_shw (w : Wv) (h : w.ok) : Shw 3 4000 w.d := by
  have h8 := h.l8
  have h9 := h.r9
  have h1 := (shw_tup (n := 1) (m := 200) (xs := w.ss.map Sp.d) fun d hd => by obtain ⟨s, hs, rfl⟩ := List.mem_map.mp hd; exact sp_shw s (h.so s hs))
  rw [List.length_map] at h1
  have h1 : Shw 2 1700 (.tuple (w.ss.map Sp.d)) := h1.mono (by decide) (by omega)
  have := shw_tup (n := 2) (m := 1700) (xs := [.int w.r, .tuple (w.ss.map Sp.d)]) fun d hd => by
    rcases List.mem_cons.mp hd with rfl | hd
    · exact (shw_int (by have : (w.r : Int).natAbs = w.r := rfl; omega)).mono (by decide) (by decide)
    · rw [List.mem_singleton.mp hd]; exact h1
  exact this.mono (by decide) (by simp)
theorem job_shw (ws : List Wv) (h : ∀ w ∈ ws, w.ok) (hl : ws.length ≤ 12) : Shw 4 49000 (jobV ws) := by
  have := shw_tup (n := 3) (m := 4000) (xs := ws.map Wv.d) fun d hd => by obtain ⟨w, hw, rfl⟩ := List.mem_map.mp hd; exact wv_shw w (h w hw)
  rw [List.length_map] at this
  exact this.mono (by decide) (by omega)
theorem dEq_works (ws : List Wv) : dEq (.list (ws.map Wv.d)) (.list []) = .ok (.bool ws.isEmpty) := by
  rw [dEq_row fun d hd => by obtain ⟨w, _, rfl⟩ := List.mem_map.mp hd; exact wv_flat w]
  cases ws <;> rfl
structure Ln (L : List Nat) (ini : List (List Nat)) (las : List Nat) : Prop where
  e : sp1 10 L = ini ++ [las]
  short : L.length ≤ 100000
  asc : Asc L
theorem Ln.get {L : List Nat} (h : L.length ≤ 100000) (h8 : Asc L) : ∃ ini las, Ln L ini las := by
  obtain ⟨ini, las, e⟩ : ∃ ini las, sp1 10 L = ini ++ [las] := by
    refine ⟨(sp1 10 L).dropLast, (sp1 10 L).getLast (sp1_ne 10 L), (List.dropLast_concat_getLast _).symm⟩
  exact ⟨ini, las, e, h, h8⟩
section
variable {L las : List Nat} {ini : List (List Nat)}
theorem Ln.all (h : Ln L ini las) : ∀ l ∈ ini ++ [las], l.length ≤ 1000000 ∧ Asc l := fun l hl => by
  have := sp1_mem (s := 10) (L := L) (p := l) (by rw [h.e]; exact hl)
  have hs := h.short
  exact ⟨by omega, fun c hc => h.asc c (this.1 c hc).1⟩
theorem Ln.inn (h : Ln L ini las) : ∀ l ∈ ini, l.length ≤ 1000000 ∧ Asc l := fun l hl => h.all l (List.mem_append_left _ hl)
theorem Ln.cnt (h : Ln L ini las) : ini.length ≤ 100000 := by
  have := sp1_cnt 10 L
  have hs := h.short
  rw [h.e, List.length_append, List.length_singleton] at this
  omega
theorem Ln.split (h : Ln L ini las) : dSplit (.str (S L)) (.str (S [10])) = .ok ((ini.map fun l => .str (S l)) ++ [.str (S las)]) := by
  rw [dSplit_S (by decide) L (by have := h.short; omega), h.e, List.map_append]
  rfl
theorem law_read_def : m_law_read = (sseq (asg 1 [] (lstD (splitM (var 0) (cst (.str "\n")))))
    (sseq (asgF 2 [] (lstF anil))
    (sseq (sforE [] [3, 4] (acons (slc (var 1) onone (osome (una dNeg (cst (.int 1))))) anil) lrb)
    (sseq (sif [2] (tor (asB (bi2 dNe (bi2 dIx (var 1) (una dNeg (cst (.int 1)))) (cst (.str "")))) (asB (bi2 dEq (var 2) (lstD (lstF anil)))))
      (Bv.ret [] (tupD (acons (bi2 dSub (cal dLen (acons (var 1) anil)) (cst (.int 1))) (acons (cst .none) anil))))
      snext)
    (Bv.ret [2] (tupD (acons (una dNeg (cst (.int 1))) (acons (cal dTuple (acons (var 2) anil)) anil)))))))) := rfl
def docD (ini : List (List Nat)) (las : List Nat) : Sum Nat (List Wv) := match rdS 0 ini with
  | .inl k => .inl k
  | .inr ws => if las ≠ [] ∨ ws = [] then .inl ini.length else .inr ws
theorem sforE_at {M : List Nat} {is : List Nat} {f : Vw → Rv (List D)} {g : Env' → Res} {ρ : Env'} {xs : List D} (h : f (vw M ρ) = .ok [.list xs]) : sforE M is f g ρ = forL (bTup is) g (pairs 0 xs) (frz M ρ) := by
  unfold sforE
  rw [h]
  rfl
theorem law_read_at (h : Ln L ini las) : f_law_read [.str (S L)] = .ok (match docD ini las with | .inl k => .tuple [.int k, .none] | .inr ws => .tuple [.int (-1), jobV ws]) := by
  have hsp := h.split
  have hcnt := h.cnt
  have hcut : cutD ((ini.map fun l => (.str (S l) : D)) ++ [.str (S las)]) none (some (-1)) = ini.map fun l => .str (S l) := by
    rw [cut_but]
    simp
  have hlast := ixD_last (ini.map fun l => (.str (S l) : D)) (.str (S las))
  have hlen : ((ini.map fun l => (.str (S l) : D)) ++ [(.str (S las) : D)]).length = ini.length + 1 := by simp
  obtain ⟨e3', e4', e5', q⟩ := lrloop (.str (S L)) (.list ((ini.map fun l => (.str (S l) : D)) ++ [.str (S las)])) ini 0 [] .un .un .un h.inn (by simp only [List.length_nil]; omega)
  unfold f_law_read
  rw [law_read_def]
  unfold docD
  generalize hLD : (ini.map fun l => (.str (S l) : D)) = I at *
  generalize hLL : I ++ [.str (S las)] = LL at *
  have q0 : sforE [] [3, 4] (acons (slc (var 1) onone (osome (una dNeg (cst (.int 1))))) anil) lrb [.fz (.str (S L)), .fz (.list LL), .ow 1 (.list []), .un, .un, .un] = forL (bTup [3, 4]) lrb (pairs 0 I) [.fz (.str (S L)), .fz (.list LL), .ow 1 (.list []), .un, .un, .un] := by
    rw [sforE_at (xs := I) (by simp [hcut])]
    rfl
  cases hr : rdS 0 ini with
  | inl k =>
    rw [hr] at q
    rw [q] at q0
    simp -implicitDefEqProofs [splitM, isStr, S_nl, hsp, q0]
  | inr ws =>
    rw [hr] at q
    rw [q] at q0
    have hq := dEq_works ws
    have hok := rdS_ok hr
    dsimp only
    by_cases hl : las = []
    · subst hl
      have hne : dNe (.str (S [])) (.str (S [])) = .ok (.bool false) := by kernel_rfl
      cases ws with
      | nil =>
        rw [if_pos (.inr rfl)]
        simp -implicitDefEqProofs only [List.map_nil, List.append_nil, List.isEmpty_nil, List.nil_append] at q0 hq
        simp -implicitDefEqProofs [splitM, isStr, S_nl, S_nil, hsp, q0, hlast, hne, hq, hlen]
      | cons w ws =>
        rw [if_neg (by simp)]
        rw [show (w :: ws).isEmpty = false from rfl] at hq
        dsimp only [List.nil_append] at q0
        dsimp only
        unfold jobV
        generalize (w :: ws).map Wv.d = J at *
        simp -implicitDefEqProofs [splitM, isStr, S_nl, S_nil, hsp, q0, hlast, hne, hq, dTuple]
    · rw [if_pos (.inl hl)]
      have hne : ¬ (S las = S []) := by rw [S_eq]; exact hl
      generalize ws.map Wv.d = J at *
      simp -implicitDefEqProofs only [List.nil_append] at q0
      simp -implicitDefEqProofs [splitM, isStr, S_nl, S_nil, hsp, q0, hlast, hne, hlen]
theorem read_job_def : m_read_job = sseq (asg 1 [] (lstD (splitM (var 0) (cst (.str "\n")))))
    (sseq (asgF 2 [] (lstF anil))
    (sseq (sforR rng1 [] (bName 3) (acons (bi2 dSub (cal dLen (acons (var 1) anil)) (cst (.int 1))) anil) rbody)
    (sseq (sif [2] (tor (asB (bi2 dNe (bi2 dIx (var 1) (una dNeg (cst (.int 1)))) (cst (.str "")))) (asB (bi2 dEq (var 2) (lstD (lstF anil)))))
      (rai "NoText" "line" (bi2 dSub (cal dLen (acons (var 1) anil)) (cst (.int 1))))
      snext)
    (sseq (sif [2] (tnot (asB (cal f_is_job (acons (cal dTuple (acons (var 2) anil)) anil))))
      (fun _ => .xc ⟨"NoJob", []⟩)
      snext)
    (Bv.ret [2] (cal dTuple (acons (var 2) anil))))))) := rfl
theorem docD_ok (h : Ln L ini las) {ws : List Wv} (e : docD ini las = .inr ws) : (∀ w ∈ ws, w.ok) ∧ ws.length ≤ 100000 := by
  unfold docD at e
  cases hr : rdS 0 ini with
  | inl k => rw [hr] at e; cases e
  | inr ws' =>
    rw [hr] at e
    dsimp only at e
    split at e
    · cases e
    · cases e
      have := rdS_ok hr
      have hc := h.cnt
      exact ⟨this.1, by omega⟩
theorem docD_lt (h : Ln L ini las) {k : Nat} (e : docD ini las = .inl k) : k ≤ 100000 := by
  have hc := h.cnt
  unfold docD at e
  cases hr : rdS 0 ini with
  | inl k' =>
    rw [hr] at e
    cases e
    have := rdS_lt hr
    omega
  | inr ws' =>
    rw [hr] at e
    dsimp only at e
    split at e
    · cases e; exact hc
    · cases e
theorem read_job_at (h : Ln L ini las) : f_read_job [.str (S L)] = match docD ini las with | .inl k => .xc ⟨"NoText", [("line", .int k)]⟩ | .inr ws => ((f_is_job [jobV ws]).bind bOf).bind fun b => if b = true then .ok (jobV ws) else .xc ⟨"NoJob", []⟩ := by
  have hsp := h.split
  have hcnt := h.cnt
  have hlast := ixD_last (ini.map fun l => (.str (S l) : D)) (.str (S las))
  have hlen : ((ini.map fun l => (.str (S l) : D)) ++ [(.str (S las) : D)]).length = ini.length + 1 := by simp
  obtain ⟨e3', e4', q⟩ := rloop (.str (S L)) ((ini.map fun l => (.str (S l) : D)) ++ [.str (S las)]) ini 0 [] .un .un h.inn (by simp only [List.length_nil]; omega) (fun i l hi => by
    have hlt := (List.getElem?_eq_some_iff.mp hi).1
    rw [Nat.zero_add, List.getElem?_append_left (by simpa using hlt), List.getElem?_map, hi]
    rfl)
  have er : rng1 [.int (ini.length : Nat)] = .ok (upN 0 ini.length) := by
    rw [rng1_nat (by omega), rangeD_nat, upN_range]
    congr 1
    exact List.map_congr_left fun i _ => by simp
  have hN : ∀ ws, docD ini las = .inr ws → (∃ b, f_is_job [jobV ws] = .ok (.bool b)) := fun ws e => by
    have := docD_ok h e
    obtain ⟨b, hb, _⟩ := is_job_at ws this.1 (by omega)
    exact ⟨b, hb⟩
  unfold f_read_job
  rw [read_job_def]
  unfold docD at hN ⊢
  generalize hLD : (ini.map fun l => (.str (S l) : D)) = I at *
  generalize hLL : I ++ [.str (S las)] = LL at *
  generalize upN 0 ini.length = U at *
  have hl1 : ((ini.length + 1 : Nat) : Int) - 1 = (ini.length : Nat) := by omega
  cases hr : rdS 0 ini with
  | inl k =>
    rw [hr] at q
    dsimp only at q
    simp -implicitDefEqProofs [splitM, isStr, S_nl, hsp, hlen, er, q]
  | inr ws =>
    rw [hr] at q hN
    have hq := dEq_works ws
    have hok := rdS_ok hr
    dsimp only [List.nil_append] at q
    have hemp : ws = [] ∨ ws.isEmpty = false := by cases ws <;> simp
    dsimp only at hN ⊢
    unfold jobV at hN ⊢
    generalize hJ : ws.map Wv.d = J at *
    by_cases hl : las = []
    · subst hl
      have hne : dNe (.str (S [])) (.str (S [])) = .ok (.bool false) := by kernel_rfl
      rcases hemp with he | he
      · rw [if_pos (.inr he)]
        subst he
        rw [show ([] : List Wv).isEmpty = true from rfl] at hq
        simp -implicitDefEqProofs [splitM, isStr, S_nl, S_nil, hsp, q, hlast, hne, hq, hlen, er, rai]
      · have hne2 : ¬ (([] : List Nat) ≠ [] ∨ ws = []) := by rintro (z | z); exact z rfl; rw [z] at he; cases he
        rw [if_neg hne2]
        rw [he] at hq
        rw [if_neg hne2] at hN
        obtain ⟨b, hb⟩ := hN ws rfl
        rw [hJ] at hb
        dsimp only
        rw [hJ, hb]
        cases b with
        | true => simp -implicitDefEqProofs [splitM, isStr, S_nl, S_nil, hsp, q, hlast, hne, hq, hlen, er, rai, dTuple, hb]
        | false => simp -implicitDefEqProofs [splitM, isStr, S_nl, S_nil, hsp, q, hlast, hne, hq, hlen, er, rai, dTuple, hb]
    · rw [if_pos (.inl hl)]
      have hne : ¬ (S las = S []) := by rw [S_eq]; exact hl
      simp -implicitDefEqProofs [splitM, isStr, S_nl, S_nil, hsp, q, hlast, hne, hlen, er, rai]
end
end K63

namespace K63
open PySem PySem.Spec L2 PyProof.Rows Bv
open SX (S)
def ltail : Env' → Res := (sseq (sif [] (asB (bi2 dIs (var 1) (cst .none)))
      (Bv.ret [] (tupD (acons (una dNeg (cst (.int 1))) (acons (var 2) anil))))
      snext)
    (sseq (asgF 4 [] (lstF (acons (isx [("NoText", true), ("NoJob", false)] (var 1)) (acons (isx [("NoText", false), ("NoJob", true)] (var 1)) (acons (isx [("NoText", true), ("NoJob", true)] (var 1)) anil)))))
    (sseq (app 4 [] (isx [("NoText", false), ("NoJob", false)] (var 1)))
    (sseq (sif [4] (asB (bi2 dEq (var 4) (lstD (lstF (acons (cst (.bool true)) (acons (cst (.bool false)) (acons (cst (.bool true)) (acons (cst (.bool false)) anil))))))))
      (Bv.ret [] (tupD (acons (xfl "NoText" "line" (var 1)) (acons (cst .none) anil))))
      snext)
    (Bv.ret [4] (tupD (acons (var 4) (acons (cst .none) anil))))))))
theorem law_told_def : m_law_told = (sseq (asg 1 [] (cst .none))
    (sseq (asg 2 [] (cst .none))
    (sseq (stry 5 3 1 (fun c => List.lookup c [("NoText", true), ("NoJob", true)]) (asg 2 [] (cal f_read_job (acons (var 0) anil))))
    ltail))) := rfl
theorem ltail_text (k : Nat) : ltail [.un, .fz (excD ⟨"NoText", [("line", .int k)]⟩), .un, .un, .un] = .rt (.tuple [.int k, .none]) := by kernel_rfl
def kindsD : D := .list [.bool false, .bool true, .bool true, .bool false]
theorem ltail_job : ltail [.un, .fz (excD ⟨"NoJob", []⟩), .un, .un, .un] = .rt (.tuple [kindsD, .none]) := by kernel_rfl
theorem stry_xc {N i j : Nat} {ok : Str → Option Bool} {f : Env' → Res} {ρ : Env'} {x : Xc} (h : f ρ = .xc x) (ho : ok x.cls = some true) (hp : x.pay.length ≤ 1) (hj : j < N) : stry N i j ok f ρ = .nx ((List.replicate N Sl.un).set j (.fz (excD x))) := by
  unfold stry
  rw [h]
  dsimp only
  rw [ho]
  dsimp only
  rw [if_pos ⟨hp, hj⟩]
theorem stry_nx {N i j : Nat} {ok : Str → Option Bool} {f : Env' → Res} {ρ ρ' : Env'} (h : f ρ = .nx ρ') : stry N i j ok f ρ = .nx ρ' := by
  unfold stry
  rw [h]
section
variable {L las : List Nat} {ini : List (List Nat)}
theorem told_xc {x : Xc} {d : D} {T : D} (hr : f_read_job [T] = .xc x) (ho : List.lookup x.cls [(("NoText" : Str), true), ("NoJob", true)] = some true) (hp : x.pay.length ≤ 1) (ht : ltail [.un, .fz (excD x), .un, .un, .un] = .rt d) : f_law_told [T] = .ok d := by
  unfold f_law_told
  rw [law_told_def]
  have e : stry 5 3 1 (fun c => List.lookup c [("NoText", true), ("NoJob", true)]) (asg 2 [] (cal f_read_job (acons (var 0) anil))) [.fz T, .fz .none, .fz .none, .un, .un] = .nx [.un, .fz (excD x), .un, .un, .un] := by
    rw [stry_xc (x := x) (by simp [hr]) ho hp (by decide)]
    rfl
  simp -implicitDefEqProofs [e, ht]
theorem told_ok {d T : D} (hr : f_read_job [T] = .ok d) (hi : imm d = true) : f_law_told [T] = .ok (.tuple [.int (-1), d]) := by
  unfold f_law_told
  rw [law_told_def]
  have e : stry 5 3 1 (fun c => List.lookup c [("NoText", true), ("NoJob", true)]) (asg 2 [] (cal f_read_job (acons (var 0) anil))) [.fz T, .fz .none, .fz .none, .un, .un] = .nx [.fz T, .fz .none, .fz d, .un, .un] := by
    rw [stry_nx (ρ' := [.fz T, .fz .none, .fz d, .un, .un]) (by simp [hr, hi])]
  simp -implicitDefEqProofs [e, ltail]
theorem job_imm (ws : List Wv) : imm (jobV ws) = true := by
  unfold jobV
  rw [imm_tup]
  exact immA_of fun d hd => by obtain ⟨w, _, rfl⟩ := List.mem_map.mp hd; exact wv_imm w
theorem kinds_shw : Shw 1 10 kindsD := (shw_lst (n := 0) (m := 0) (xs := [.bool false, .bool true, .bool true, .bool false]) fun d hd => by
  simp only [List.mem_cons, List.not_mem_nil, or_false] at hd
  rcases hd with rfl | rfl | rfl | rfl <;> exact shw_bool _).mono (by decide) (by decide)
theorem law_right_at {L : List Nat} (hl : L.length ≤ 100000) (h8 : Asc L) : f_law_right [.str (S L)] = .ok (.bool true) := by
  obtain ⟨ini, las, h⟩ := Ln.get hl h8
  have h1 := law_read_at h
  have h2 := read_job_at h
  cases hd : docD ini las with
  | inl k =>
    rw [hd] at h1 h2
    have hk := docD_lt h hd
    have h3 := told_xc h2 (by kernel_rfl) (by simp) (ltail_text k)
    have hr := repr_at (shw_tup (n := 0) (m := 40) (xs := [.int k, .none]) fun d hd => by
      rcases List.mem_cons.mp hd with rfl | hd
      · exact shw_int (by have : (k : Int).natAbs = k := rfl; omega)
      · rw [List.mem_singleton.mp hd]; exact shw_none.mono (by decide) (by decide)) (by decide) (by simp)
    dsimp only at h1
    have hk0 : ¬ ((k : Int) < 0) := by omega
    simp -implicitDefEqProofs [f_law_right, m_law_right, h1, h3, hr, hk0]
  | inr ws =>
    rw [hd] at h1 h2
    obtain ⟨hok, hwl⟩ := docD_ok h hd
    obtain ⟨b, hb, hb12⟩ := is_job_at ws hok (by omega)
    dsimp only at h1 h2
    rw [hb] at h2
    cases b with
    | true =>
      have h3 := told_ok (d := jobV ws) (by rw [h2]; rfl) (job_imm ws)
      have hr := repr_at (shw_tup (n := 4) (m := 49000) (xs := [.int (-1), jobV ws]) fun d hd => by
        rcases List.mem_cons.mp hd with rfl | hd
        · exact (shw_int (by decide)).mono (by decide) (by decide)
        · rw [List.mem_singleton.mp hd]; exact job_shw ws hok (hb12 rfl)) (by decide) (by simp)
      have hji := job_imm ws
      simp -implicitDefEqProofs [f_law_right, m_law_right, h1, h3, hr, hb, isB, hji]
    | false =>
      have h3 := told_xc (x := ⟨"NoJob", []⟩) (by rw [h2]; rfl) (by kernel_rfl) (by decide) ltail_job
      have hr := repr_at (shw_tup (n := 1) (m := 10) (xs := [kindsD, .none]) fun d hd => by
        rcases List.mem_cons.mp hd with rfl | hd
        · exact kinds_shw
        · rw [List.mem_singleton.mp hd]; exact shw_none.mono (by decide) (by decide)) (by decide) (by simp)
      have hji := job_imm ws
      have ek : kindsD = .list [.bool false, .bool true, .bool true, .bool false] := rfl
      rw [ek] at h3 hr
      simp -implicitDefEqProofs [f_law_right, m_law_right, h1, h3, hr, hb, isB, hji]
end
end K63

namespace K63J
open PySem PySem.Spec L2 PyProof.Rows Bv K63
open SX (S)
inductive Stp where
  | dow
  | wai
  | snd (k : Fin 12)
def Stp.d : Stp → D
  | .dow => .tuple [.str "do"]
  | .wai => .tuple [.str "wait"]
  | .snd k => .tuple [.str "send", .int k.val]
def wordS : Stp → Str
  | .dow => "do"
  | .wai => "wait"
  | .snd k => Str.ofString ("send-" ++ toString k.val)
def Stp.L (s : Stp) : List Nat := (wordS s).cps.toList
theorem word_free : ∀ s : Stp, 32 ∉ s.L ∧ 10 ∉ s.L ∧ s.L.length ≤ 7
  | .dow => by decide +kernel +revert
  | .wai => by decide +kernel +revert
  | .snd ⟨0, _⟩ => by decide +kernel +revert
  | .snd ⟨1, _⟩ => by decide +kernel +revert
  | .snd ⟨2, _⟩ => by decide +kernel +revert
  | .snd ⟨3, _⟩ => by decide +kernel +revert
  | .snd ⟨4, _⟩ => by decide +kernel +revert
  | .snd ⟨5, _⟩ => by decide +kernel +revert
  | .snd ⟨6, _⟩ => by decide +kernel +revert
  | .snd ⟨7, _⟩ => by decide +kernel +revert
  | .snd ⟨8, _⟩ => by decide +kernel +revert
  | .snd ⟨9, _⟩ => by decide +kernel +revert
  | .snd ⟨10, _⟩ => by decide +kernel +revert
  | .snd ⟨11, _⟩ => by decide +kernel +revert
def roomL (r : Fin 9) : List Nat := [49 + r.val, 58]
def Rm (r : Fin 9) : D := .int (r.val + 1)
theorem str_room : ∀ r : Fin 9, dStr [Rm r] = .ok (.str (S [49 + r.val]))
  | ⟨0, _⟩ => by kernel_rfl
  | ⟨1, _⟩ => by kernel_rfl
  | ⟨2, _⟩ => by kernel_rfl
  | ⟨3, _⟩ => by kernel_rfl
  | ⟨4, _⟩ => by kernel_rfl
  | ⟨5, _⟩ => by kernel_rfl
  | ⟨6, _⟩ => by kernel_rfl
  | ⟨7, _⟩ => by kernel_rfl
  | ⟨8, _⟩ => by kernel_rfl
structure Wk where
  r : Fin 9
  ss : List Stp
def Wk.d (w : Wk) : D := .tuple [Rm w.r, .tuple (w.ss.map Stp.d)]
def Wk.L (w : Wk) : List Nat := [49 + w.r.val, 58] ++ (w.ss.map fun s => 32 :: s.L).flatten
def Wk.ok (w : Wk) : Prop := 1 ≤ w.ss.length ∧ w.ss.length ≤ 8
theorem joinL_nil : ∀ l : List (List Nat), TL.joinL [] l = l.flatten
  | [] => rfl
  | [x] => by simp [TL.joinL]
  | x :: y :: l => by
    have := joinL_nil (y :: l)
    rw [TL.joinL, this]
    simp
theorem S_nil : (Str.ofString "" : Str) = S [] := by kernel_rfl
theorem S_sp : (Str.ofString " " : Str) = S [32] := by kernel_rfl
theorem S_co : (Str.ofString ":" : Str) = S [58] := by kernel_rfl
theorem S_nl : (Str.ofString "\n" : Str) = S [10] := by kernel_rfl
theorem dAdd_S {a b : List Nat} (h : a.length + b.length ≤ 16000000) : dAdd (.str (S a)) (.str (S b)) = .ok (.str (S (a ++ b))) := by
  rw [dAdd_ss, SX.S_len, SX.S_len, if_pos h, SX.S_cat]
theorem dJoin_S {a : List Nat} {l : List (List Nat)} (h : (l.map (·.length)).sum + l.length * a.length ≤ 16000000) : dJoin (.str (S a)) (.list (l.map fun x => .str (S x))) = .ok (.str (S (TL.joinL a l))) := by
  have e : (l.map fun x => (PyData.str (S x) : D)) = (l.map S).map .str := by rw [List.map_map]; rfl
  unfold dJoin
  rw [e]
  simp only [strsOf_map, SX.lens, List.length_map, SX.S_len, if_pos h, SX.join_S]
theorem steps_len : ∀ (ss : List Stp), ((ss.map fun s => 32 :: s.L).flatten).length ≤ 8 * ss.length
  | [] => by simp
  | s :: ss => by
    have := steps_len ss
    have h := (word_free s).2.2
    simp only [List.map_cons, List.flatten_cons, List.length_append, List.length_cons]
    omega
theorem work_len (w : Wk) (h : w.ok) : w.L.length ≤ 66 := by
  have := steps_len w.ss
  have := h.2
  unfold Wk.L
  simp only [List.length_append, List.length_cons, List.length_nil]
  omega
def jobL (ws : List Wk) : List Nat := (ws.map fun w => w.L ++ [10]).flatten
def jobD (ws : List Wk) : D := .tuple (ws.map Wk.d)
def allOk (ws : List Wk) : Prop := ∀ w ∈ ws, w.ok
theorem job_len : ∀ (ws : List Wk), allOk ws → (jobL ws).length ≤ 67 * ws.length
  | [], _ => by simp [jobL]
  | w :: ws, h => by
    have := job_len ws fun x hx => h x (List.mem_cons_of_mem _ hx)
    have := work_len w (h w List.mem_cons_self)
    unfold jobL at *
    simp only [List.map_cons, List.flatten_cons, List.length_append, List.length_cons, List.length_nil] at *
    omega
theorem step_text (x0 x1 x2 x3 : Option D) : ∀ s : Stp, joinM (cst (.str "-")) (lstD (cmp [5] (vName 5) yes (cal dStr (acons (var 5) anil)) (srcE (var 4)))) [x0, x1, x2, x3, some s.d, none] = .ok (.str (S s.L))
  | .dow => by kernel_rfl
  | .wai => by kernel_rfl
  | .snd ⟨0, _⟩ => by kernel_rfl
  | .snd ⟨1, _⟩ => by kernel_rfl
  | .snd ⟨2, _⟩ => by kernel_rfl
  | .snd ⟨3, _⟩ => by kernel_rfl
  | .snd ⟨4, _⟩ => by kernel_rfl
  | .snd ⟨5, _⟩ => by kernel_rfl
  | .snd ⟨6, _⟩ => by kernel_rfl
  | .snd ⟨7, _⟩ => by kernel_rfl
  | .snd ⟨8, _⟩ => by kernel_rfl
  | .snd ⟨9, _⟩ => by kernel_rfl
  | .snd ⟨10, _⟩ => by kernel_rfl
  | .snd ⟨11, _⟩ => by kernel_rfl
def sbody : Env' → Res := asg 1 [] (bi2 dAdd (bi2 dAdd (var 1) (cst (.str " "))) (joinM (cst (.str "-")) (lstD (cmp [5] (vName 5) yes (cal dStr (acons (var 5) anil)) (srcE (var 4))))))
theorem sbody_at (a b c d : Sl) (acc : List Nat) (s : Stp) (h : acc.length ≤ 1000000) (a' c' d' : D) (ha : a = .fz a') (hc : c = .fz c') (hd : d = .fz d') : sbody [a, .fz (.str (S acc)), c, d, .fz s.d, .un] = .nx [a, .fz (.str (S (acc ++ 32 :: s.L))), c, d, .fz s.d, .un] := by
  subst ha hc hd
  have h7 := (word_free s).2.2
  have := step_text (some a') (some (.str (S acc))) (some c') (some d') s
  unfold sbody
  simp only [asg_def, vw_cons, vwF_cons, vwF_nil, vw1_fz, vw1_un, bi2_def, this]
  simp [S_sp, SX.S_len, SX.S_cat, show acc.length + 1 ≤ 16000000 by omega, show acc.length + 1 + s.L.length ≤ 16000000 by omega]
def Gd (e : Sl) : Prop := e = .un ∨ ∃ d, e = .fz d
theorem sloop (a' c' d' : D) : ∀ (ss : List Stp) (acc : List Nat) (e : Sl), Gd e → acc.length + 8 * ss.length ≤ 1000000 →
    ∃ e', Gd e' ∧ forL (bName 4) sbody (ss.map Stp.d) [.fz a', .fz (.str (S acc)), .fz c', .fz d', e, .un] = .nx [.fz a', .fz (.str (S (acc ++ (ss.map fun s => 32 :: s.L).flatten))), .fz c', .fz d', e', .un]
  | [], acc, e, g, _ => ⟨e, g, by simp⟩
  | s :: ss, acc, e, g, h => by
    have h7 := (word_free s).2.2
    simp only [List.length_cons] at h
    obtain ⟨e', g', q⟩ := sloop a' c' d' ss (acc ++ 32 :: s.L) (.fz s.d) (.inr ⟨_, rfl⟩) (by simp only [List.length_append, List.length_cons]; omega)
    refine ⟨e', g', ?_⟩
    have hb := sbody_at (.fz a') .un (.fz c') (.fz d') acc s (by omega) a' c' d' rfl rfl rfl
    rw [List.map_cons, forL]
    simp only [bName_def, List.set_cons_zero, List.set_cons_succ, hb, q]
    simp
def wbody : Env' → Res := sseq (asg 1 [] (bi2 dAdd (bi2 dAdd (var 1) (cal dStr (acons (var 2) anil))) (cst (.str ":"))))
  (sseq (sfor [] (bName 4) (var 3) sbody)
  (asg 1 [] (bi2 dAdd (var 1) (cst (.str "\n")))))
theorem law_text_def : m_law_text = sseq (asg 1 [] (cst (.str ""))) (sseq (sfor [] (bTup [2, 3]) (var 0) wbody) (ret [] (var 1))) := rfl
theorem gvw (M : List Nat) (k : Nat) {e : Sl} (g : Gd e) : ∃ o, vw1 M k e = o ∧ frz1 M k e = e := by
  rcases g with rfl | ⟨d, rfl⟩
  · exact ⟨_, rfl, rfl⟩
  · exact ⟨_, rfl, rfl⟩
theorem wbody_at (a' : D) (w : Wk) (acc : List Nat) (e : Sl) (he : Gd e) (hw : w.ok) (h : acc.length ≤ 900000) :
    ∃ e', Gd e' ∧ wbody [.fz a', .fz (.str (S acc)), .fz (Rm w.r), .fz (.tuple (w.ss.map Stp.d)), e, .un] = .nx [.fz a', .fz (.str (S (acc ++ (w.L ++ [10])))), .fz (Rm w.r), .fz (.tuple (w.ss.map Stp.d)), e', .un] := by
  have hs := str_room w.r
  have h8 := hw.2
  have hl := steps_len w.ss
  obtain ⟨e', g', q⟩ := sloop a' (Rm w.r) (.tuple (w.ss.map Stp.d)) w.ss (acc ++ [49 + w.r.val, 58]) e he (by simp only [List.length_append, List.length_cons, List.length_nil]; omega)
  have hW : w.L = [49 + w.r.val, 58] ++ (w.ss.map fun s => 32 :: s.L).flatten := rfl
  rw [hW]
  generalize (w.ss.map fun s => 32 :: s.L).flatten = F at *
  refine ⟨e', g', ?_⟩
  obtain ⟨o1, v1, z1⟩ := gvw [] 4 he
  obtain ⟨o2, v2, z2⟩ := gvw [] 4 g'
  have l1 : acc.length + 1 ≤ 16000000 := by omega
  have l2 : acc.length + 1 + 1 ≤ 16000000 := by omega
  have l3 : acc.length + 2 + F.length + 1 ≤ 16000000 := by omega
  have l4 : acc.length + (F.length + 1 + 1) + 1 ≤ 16000000 := by omega
  have q' : forL (bName 4) sbody (w.ss.map Stp.d) [.fz a', .fz (.str (S (acc ++ [49 + w.r.val, 58]))), .fz (Rm w.r), .fz (.tuple (w.ss.map Stp.d)), e, .un] = _ := q
  simp [wbody, v1, z1, hs, S_co, S_nl, SX.S_len, SX.S_cat, l1, l2, q', v2, z2, l3, l4]
theorem wloop (J : D) : ∀ (ws : List Wk) (acc : List Nat) (c d e : Sl), Gd c → Gd d → Gd e → allOk ws → acc.length + 67 * ws.length ≤ 900000 →
    ∃ c' d' e', Gd c' ∧ Gd d' ∧ Gd e' ∧ forL (bTup [2, 3]) wbody (ws.map Wk.d) [.fz J, .fz (.str (S acc)), c, d, e, .un] = .nx [.fz J, .fz (.str (S (acc ++ jobL ws))), c', d', e', .un]
  | [], acc, c, d, e, gc, gd, ge, _, _ => ⟨c, d, e, gc, gd, ge, by simp [jobL]⟩
  | w :: ws, acc, c, d, e, gc, gd, ge, ho, h => by
    have hw := ho w List.mem_cons_self
    have hlw := work_len w hw
    simp only [List.length_cons] at h
    obtain ⟨e1, ge1, q1⟩ := wbody_at J w acc e ge hw (by omega)
    obtain ⟨c', d', e', gc', gd', ge', q⟩ := wloop J ws (acc ++ (w.L ++ [10])) (.fz (Rm w.r)) (.fz (.tuple (w.ss.map Stp.d))) e1 (.inr ⟨_, rfl⟩) (.inr ⟨_, rfl⟩) ge1 (fun x hx => ho x (List.mem_cons_of_mem _ hx)) (by simp only [List.length_append, List.length_cons, List.length_nil]; omega)
    refine ⟨c', d', e', gc', gd', ge', ?_⟩
    rw [List.map_cons, forL]
    have hb : bTup [2, 3] w.d [.fz J, .fz (.str (S acc)), c, d, e, .un] = some [.fz J, .fz (.str (S acc)), .fz (Rm w.r), .fz (.tuple (w.ss.map Stp.d)), e, .un] := rfl
    simp only [hb, q1, q]
    simp [jobL]
theorem law_text_at (ws : List Wk) (h : allOk ws) (hl : ws.length ≤ 1000) : f_law_text [jobD ws] = .ok (.str (S (jobL ws))) := by
  obtain ⟨c', d', e', gc, gd, ge, q⟩ := wloop (jobD ws) ws [] .un .un .un (.inl rfl) (.inl rfl) (.inl rfl) h (by simp only [List.length_nil]; omega)
  obtain ⟨o1, v1, z1⟩ := gvw [] 2 gc
  obtain ⟨o2, v2, z2⟩ := gvw [] 3 gd
  obtain ⟨o3, v3, z3⟩ := gvw [] 4 ge
  unfold f_law_text
  rw [law_text_def]
  unfold jobD at q ⊢
  simp [S_nil, q, v1, v2, v3]
theorem shp_row {xs : List D} (h : ∀ d ∈ xs, nodict d = true ∧ PyData.canLay0 d = true ∧ d.depth ≤ 20) : shp (.list xs) = true := by
  have h1 : ∀ xs : List D, (∀ d ∈ xs, nodict d = true ∧ PyData.canLay0 d = true ∧ d.depth ≤ 20) → nodictA xs = true ∧ PyData.canLayAll0 xs = true ∧ PyData.depthAll xs ≤ 20 := fun xs => by
    induction xs with
    | nil => intro _; exact ⟨rfl, rfl, by simp [PyData.depthAll]⟩
    | cons x xs ih =>
      intro h
      obtain ⟨a, b, c⟩ := ih fun d hd => h d (List.mem_cons_of_mem _ hd)
      obtain ⟨a', b', c'⟩ := h x List.mem_cons_self
      refine ⟨by simp [nodictA, a, a'], by simp [PyData.canLayAll0, b, b'], by simp only [PyData.depthAll]; omega⟩
  obtain ⟨a, b, c⟩ := h1 xs h
  have c' : PyData.depth (.list xs) ≤ 64 := by simp only [PyData.depth]; omega
  simp [shp, nodict, a, SeqAt.shaped, PyData.canLay0, b, c']
theorem dEq_row {xs : List D} (h : ∀ d ∈ xs, nodict d = true ∧ PyData.canLay0 d = true ∧ d.depth ≤ 20) : dEq (.list xs) (.list []) = .ok (.bool xs.isEmpty) := by
  have e : dEq (.list xs) (.list []) = if shp (.list xs) = true ∧ shp (.list []) = true then .ok (.bool (PyData.eqv (.list xs) (.list []))) else .un := rfl
  rw [e, if_pos ⟨shp_row h, shp_ints []⟩]
  cases xs <;> simp [PyData.eqv, PyData.eqvAll]
theorem six_nat (n d : Nat) {i : Int} (h : 0 ≤ i) : HT.sIx n d (some i) = min i.toNat n := by
  unfold HT.sIx
  exact if_neg (by omega)
theorem cut_hi (xs : List D) {i : Int} (h : 0 ≤ i) : Bv.cutD xs (some i) none = xs.drop i.toNat := by
  unfold Bv.cutD
  rw [six_nat _ _ h, HT.sIx_none, List.take_of_length_le (by simp)]
  by_cases hl : i.toNat ≤ xs.length
  · rw [Nat.min_eq_left hl]
  · rw [Nat.min_eq_right (by omega), List.drop_eq_nil_of_le (by omega), List.drop_eq_nil_of_le (by omega)]
theorem rows_flat {xs : List D} {n : Nat} (h : ∀ d ∈ xs, nodict d = true ∧ PyData.canLay0 d = true ∧ d.depth ≤ n) : nodictA xs = true ∧ PyData.canLayAll0 xs = true ∧ PyData.depthAll xs ≤ n := by
  induction xs with
  | nil => exact ⟨rfl, rfl, by simp [PyData.depthAll]⟩
  | cons x xs ih =>
    obtain ⟨a, b, c⟩ := ih fun d hd => h d (List.mem_cons_of_mem _ hd)
    obtain ⟨a', b', c'⟩ := h x List.mem_cons_self
    refine ⟨by simp [nodictA, a, a'], by simp [PyData.canLayAll0, b, b'], by simp only [PyData.depthAll]; omega⟩
theorem stp_flat2 : ∀ s : Stp, nodict s.d = true ∧ PyData.canLay0 s.d = true ∧ s.d.depth ≤ 4
  | .dow => by decide +kernel
  | .wai => by decide +kernel
  | .snd k => by simp [Stp.d, nodict, nodictA, PyData.canLay0, PyData.canLayAll0, PyData.depth, PyData.depthAll]; decide +kernel
theorem wk_flat (w : Wk) : nodict w.d = true ∧ PyData.canLay0 w.d = true ∧ w.d.depth ≤ 20 := by
  obtain ⟨a, b, c⟩ := rows_flat (xs := w.ss.map Stp.d) (n := 4) fun d hd => by obtain ⟨s, _, rfl⟩ := List.mem_map.mp hd; exact stp_flat2 s
  have hdr : Rm w.r = .int ((w.r.val : Int) + 1) := rfl
  refine ⟨by simp [Wk.d, hdr, nodict, nodictA, a], by simp [Wk.d, hdr, PyData.canLay0, PyData.canLayAll0, b], ?_⟩
  simp only [Wk.d, hdr, PyData.depth, PyData.depthAll]
  omega
theorem wk_imm (w : Wk) : imm w.d = true := by
  have i2 : immA (w.ss.map Stp.d) = true := immA_of fun d hd => by obtain ⟨s, _, rfl⟩ := List.mem_map.mp hd; cases s <;> rfl
  have hR : imm (Rm w.r) = true := rfl
  simp [Wk.d, i2, hR]
def Stp.isSnd : Stp → Bool
  | .snd _ => true
  | _ => false
def Stp.num : Stp → Int
  | .snd k => k.val
  | _ => 0
def Wk.snds (w : Wk) : List Int := (w.ss.filter Stp.isSnd).map Stp.num
def sndsOf (ws : List Wk) : List Int := (ws.map Wk.snds).flatten
def upTo (n : Nat) : List Int := (List.range (n - 1)).map fun i => (1 : Int) + (i : Nat)
theorem upTo_pw (n : Nat) : (upTo n).Pairwise (· ≤ ·) := by
  unfold upTo
  rw [List.pairwise_map]
  exact List.Pairwise.imp (fun h => by omega) List.pairwise_lt_range
theorem int_of {xs : List D} {i : Int} (Q : Int → Prop) (h0 : 0 ≤ i) (h1 : i < xs.length) (h : ∀ d ∈ xs, ∃ v, d = .int v ∧ Q v) : ∃ v, ixD xs i = .ok (.int v) ∧ Q v := by
  obtain ⟨d, e, v, rfl, q⟩ := pick (fun d => ∃ v, d = .int v ∧ Q v) h0 h1 h
  exact ⟨v, e, q⟩
theorem mix_at {c k : Int} (h0 : 0 ≤ k) (h1 : k ≤ 1000) : ∃ v, f_law_mix [.int c, .int k] = .ok (.int v) ∧ 0 ≤ v ∧ v < 2 ^ 30 := by
  have a0 := Int.emod_nonneg k (show (7 : Int) ≠ 0 by decide)
  have a1 := Int.emod_lt_of_pos k (show (0 : Int) < 7 by decide)
  have m1 : dMod (.int k) (.int 7) = .ok (.int (k % 7)) := dMod_ok (by decide)
  generalize k % 7 = k7 at a0 a1 m1
  obtain ⟨p, e1, p0, p1⟩ := int_of (xs := [.int 2147483647, .int 2147483629, .int 2147483587, .int 2147483579, .int 2147483563, .int 2147483549, .int 2147483543]) (i := k7) (fun v => 0 < v ∧ v < 2 ^ 31) a0 (by simpa using a1) (by
    intro d hd
    simp only [List.mem_cons, List.not_mem_nil, or_false] at hd
    rcases hd with rfl | rfl | rfl | rfl | rfl | rfl | rfl <;> exact ⟨_, rfl, by decide, by decide⟩)
  have b0 := Int.emod_nonneg c (show (998244353 : Int) ≠ 0 by decide)
  have b1 := Int.emod_lt_of_pos c (show (0 : Int) < 998244353 by decide)
  have m2 : dMod (.int c) (.int 998244353) = .ok (.int (c % 998244353)) := dMod_ok (by decide)
  generalize c % 998244353 = c1 at b0 b1 m2
  have m3 : dMul (.int 104729) (.int (k + 1)) = .ok (.int (104729 * (k + 1))) := dMul_ok (by decide) (by decide)
  have m4 : dMul (.int k) (.int k) = .ok (.int (k * k)) := dMul_ok (by omega) (by omega)
  have m5 : dMul (.int 7) (.int k) = .ok (.int (7 * k)) := dMul_ok (by decide) (by decide)
  have m6 : dMul (.int (c1 + 104729 * (k + 1))) (.int (k * k + 7 * k + 13)) = .ok (.int ((c1 + 104729 * (k + 1)) * (k * k + 7 * k + 13))) := dMul_ok (by omega) (by omega)
  have m7 : dMod (.int ((c1 + 104729 * (k + 1)) * (k * k + 7 * k + 13))) (.int p) = .ok (.int ((c1 + 104729 * (k + 1)) * (k * k + 7 * k + 13) % p)) := dMod_ok p0
  have d0 := Int.emod_nonneg ((c1 + 104729 * (k + 1)) * (k * k + 7 * k + 13)) (show p ≠ 0 by omega)
  have d1 := Int.emod_lt_of_pos ((c1 + 104729 * (k + 1)) * (k * k + 7 * k + 13)) p0
  generalize (c1 + 104729 * (k + 1)) * (k * k + 7 * k + 13) % p = o1 at m7 d0 d1
  have m8 : dPow (.int o1) (.int 5) = .ok (.int (o1 ^ (5 : Int).toNat)) := dPow_ok (by omega) (by decide) (by decide)
  generalize o1 ^ (5 : Int).toNat = o2 at m8
  have m9 : dMod (.int o2) (.int 1000000007) = .ok (.int (o2 % 1000000007)) := dMod_ok (by decide)
  have f0 := Int.emod_nonneg o2 (show (1000000007 : Int) ≠ 0 by decide)
  have f1 := Int.emod_lt_of_pos o2 (show (0 : Int) < 1000000007 by decide)
  generalize o2 % 1000000007 = o3 at m9 f0 f1
  have m10 : dMul (.int o3) (.int 48271) = .ok (.int (o3 * 48271)) := dMul_ok (by omega) (by omega)
  have m11 : dMul (.int 31) (.int k) = .ok (.int (31 * k)) := dMul_ok (by decide) (by decide)
  have m12 : dMod (.int (o3 * 48271 + 31 * k + 5)) (.int p) = .ok (.int ((o3 * 48271 + 31 * k + 5) % p)) := dMod_ok p0
  have g0 := Int.emod_nonneg (o3 * 48271 + 31 * k + 5) (show p ≠ 0 by omega)
  have g1 := Int.emod_lt_of_pos (o3 * 48271 + 31 * k + 5) p0
  generalize (o3 * 48271 + 31 * k + 5) % p = o4 at m12 g0 g1
  have m13 : dPow (.int o4) (.int 3) = .ok (.int (o4 ^ (3 : Int).toNat)) := dPow_ok (by omega) (by decide) (by decide)
  generalize o4 ^ (3 : Int).toNat = o5 at m13
  have m14 : dMod (.int o5) (.int 998244353) = .ok (.int (o5 % 998244353)) := dMod_ok (by decide)
  have h0' := Int.emod_nonneg o5 (show (998244353 : Int) ≠ 0 by decide)
  have h1' := Int.emod_lt_of_pos o5 (show (0 : Int) < 998244353 by decide)
  generalize o5 % 998244353 = o6 at m14 h0' h1'
  have m15 : dDiv (.int o6) (.int 8) = .ok (.int (o6 / 8)) := dDiv_ok (by decide) (by decide)
  refine ⟨o6 / 8, ?_, by omega, by omega⟩
  simp -implicitDefEqProofs [f_law_mix, m_law_mix, m1, m2, m3, m4, m5, m6, m7, m8, m9, m10, m11, m12, m13, m14, m15, e1]
def Ns (ns : List Int) : Prop := ∀ n ∈ ns, 0 ≤ n ∧ n < 2 ^ 30
def dbody : Env' → Res := (sif [] (tand (asB (var 4)) (asB (bi2 dGt (var 3) (cst (.int 0)))))
        (sseq (app 2 [] (bi2 dMod (var 3) (cst (.int 10007))))
        (asg 3 [] (bi2 dDiv (var 3) (cst (.int 10007)))))
        (app 2 [] (cal f_law_mix (acons (var 0) (acons (var 5) anil)))))
theorem digits_def : m_law_digits = sseq (asgF 2 [] (lstF anil)) (sseq (asg 3 [] (cal dAbs (acons (var 0) anil))) (sseq (asg 4 [] (bi2 dGe (var 3) (bi2 dPow (cst (.int 10)) (cst (.int 18))))) (sseq (sforR rng1 [] (bName 5) (acons (var 1) anil) dbody) (Bv.ret [2] (var 2))))) := rfl
theorem app1 {j : Nat} {M : List Nat} {f : Vw → Rv D} {ρ : Env'} {xs : List D} {d : D} (h : ρ[j]? = some (.ow 1 (.list xs))) (hf : f (vw M ρ) = .ok d) (hi : imm d = true) (hl : xs.length < 16000000) : app j M f ρ = .nx (ρ.set j (.ow 1 (.list (xs ++ [d])))) := by
  rw [app_at (n := 0) h, hf]
  simp only [Rv.st_ok]
  rw [if_pos ⟨hl, .inl hi⟩, if_pos hi]
theorem digits_at (c : Int) {many : Int} (hm0 : 0 ≤ many) (hm : many ≤ 1000) : ∃ ns : List Int, f_law_digits [.int c, .int many] = .ok (.list (ns.map .int)) ∧ (ns.length : Int) = many ∧ Ns ns := by
  obtain ⟨wide, hw⟩ : ∃ wide, wide = decide ((10 : Int) ^ (18 : Int).toNat ≤ if c < 0 then -c else c) := ⟨_, rfl⟩
  obtain ⟨lf, hl0, hl⟩ : ∃ lf : Int, (if c < 0 then -c else c) = lf ∧ 0 ≤ lf := ⟨_, rfl, by split <;> omega⟩
  have ha : dAbs [.int c] = .ok (.int lf) := by rw [dAbs_i, hl0]
  have hp : dPow (.int 10) (.int 18) = .ok (.int ((10 : Int) ^ (18 : Int).toNat)) := dPow_ok (by decide) (by decide) (by decide)
  rw [hl0] at hw
  generalize (10 : Int) ^ (18 : Int).toNat = T at hw hp
  have er : rng1 [.int many] = .ok (rangeD 0 many) := by rw [rng1_i, if_pos (rngOk_of (by omega) (by omega))]
  obtain ⟨ρ', hf, ns, l2, b5, rfl, h1, h2, h3⟩ := forL_ix (b := bName 5) (g := dbody) (xs := rangeD 0 many) (k := 0) (ρ := [.fz (.int c), .fz (.int many), .ow 1 (.list []), .fz (.int lf), .fz (.bool wide), .un])
    (fun k ρ => ∃ (ns : List Int) (l : Int) (b5 : Sl), ρ = [.fz (.int c), .fz (.int many), .ow 1 (.list (ns.map .int)), .fz (.int l), .fz (.bool wide), b5] ∧ ns.length = k ∧ Ns ns ∧ 0 ≤ l)
    ⟨[], lf, .un, rfl, rfl, (fun _ h => by cases h), hl⟩ (by
      rintro i d hi ρ ⟨ns, l, b5, rfl, h1, h2, h3⟩
      rw [Nat.zero_add] at h1 ⊢
      have hi2 := (List.getElem?_eq_some_iff.mp hi).1
      rw [rangeD_len] at hi2
      have ed : d = .int (i : Nat) := by
        rw [rangeD_get hi2, Int.zero_add] at hi
        exact (Option.some.inj hi).symm
      subst ed
      have nl : (ns.map PyData.int).length < 16000000 := by rw [List.length_map]; omega
      obtain ⟨v, hv, v0, v1⟩ := mix_at (c := c) (k := (i : Nat)) (by omega) (by omega)
      by_cases hb : (wide = true ∧ 0 < l)
      · have q0 := Int.emod_nonneg l (show (10007 : Int) ≠ 0 by decide)
        have q1 := Int.emod_lt_of_pos l (show (0 : Int) < 10007 by decide)
        refine ⟨_, [.fz (.int c), .fz (.int many), .ow 1 (.list ((ns ++ [l % 10007]).map .int)), .fz (.int (l / 10007)), .fz (.bool wide), .fz (.int (i : Nat))], rfl, ?_, ns ++ [l % 10007], l / 10007, _, rfl, by simp [h1], ?_, Int.ediv_nonneg h3 (by decide)⟩
        · have m1 : dMod (.int l) (.int 10007) = .ok (.int (l % 10007)) := dMod_ok (by decide)
          have m2 : dDiv (.int l) (.int 10007) = .ok (.int (l / 10007)) := dDiv_ok (by decide) (by decide)
          have := app1 (j := 2) (d := .int (l % 10007)) (M := []) (f := bi2 dMod (var 3) (cst (.int 10007))) (ρ := [.fz (.int c), .fz (.int many), .ow 1 (.list (ns.map .int)), .fz (.int l), .fz (.bool wide), .fz (.int (i : Nat))]) rfl (by simp [m1]) rfl nl
          simp -implicitDefEqProofs [dbody, hb.1, hb.2]
          rw [hb.1] at this
          simp -implicitDefEqProofs [this, m2]
        · intro n hn
          rcases List.mem_append.mp hn with hn | hn
          · exact h2 n hn
          · rw [List.mem_singleton.mp hn]; omega
      · refine ⟨_, [.fz (.int c), .fz (.int many), .ow 1 (.list ((ns ++ [v]).map .int)), .fz (.int l), .fz (.bool wide), .fz (.int (i : Nat))], rfl, ?_, ns ++ [v], l, _, rfl, by simp [h1], ?_, h3⟩
        · have := app1 (j := 2) (d := .int v) (M := []) (f := cal f_law_mix (acons (var 0) (acons (var 5) anil))) (ρ := [.fz (.int c), .fz (.int many), .ow 1 (.list (ns.map .int)), .fz (.int l), .fz (.bool wide), .fz (.int (i : Nat))]) rfl (by simp [hv]) rfl nl
          cases wide with
          | false => simp -implicitDefEqProofs [dbody, this]
          | true =>
            have hb2 : ¬ 0 < l := fun h => hb ⟨rfl, h⟩
            simp -implicitDefEqProofs [dbody, this, hb2]
        · intro n hn
          rcases List.mem_append.mp hn with hn | hn
          · exact h2 n hn
          · rw [List.mem_singleton.mp hn]; exact ⟨v0, v1⟩)
  rw [rangeD_len, Nat.zero_add, Int.sub_zero] at h1
  refine ⟨ns, ?_, by omega, h2⟩
  unfold f_law_digits
  rw [digits_def]
  generalize rangeD 0 many = rg at hf er
  simp -implicitDefEqProofs [ha, hp, ← hw, er, hf]
theorem law_at_at (xs : List Int) {k : Int} (h0 : 0 ≤ k) : ∃ c, f_law_at [.list (xs.map .int), .int k] = .ok (.int c) := by
  by_cases h : k < xs.length
  · obtain ⟨d, e, c, rfl⟩ := pick (xs := xs.map PyData.int) (i := k) (fun d => ∃ c, d = .int c) h0 (by simpa using h) fun d hd => by obtain ⟨c, _, rfl⟩ := List.mem_map.mp hd; exact ⟨c, rfl⟩
    refine ⟨c, ?_⟩
    simp -implicitDefEqProofs [f_law_at, m_law_at, h, e]
  · refine ⟨67 * k + 19 + xs.length, ?_⟩
    have hm : dMul (.int 67) (.int k) = .ok (.int (67 * k)) := dMul_ok (by decide) (by decide)
    simp -implicitDefEqProofs [f_law_at, m_law_at, h, hm]
def kbody : Env' → Res := (sseq (asg 6 [] (slc (cal f_law_digits (acons (cal f_law_at (acons (var 0) (acons (var 5) anil))) (acons (cst (.int 24)) anil))) (osome (cst (.int 16))) onone))
      (sseq (asgC 7 0 [4] (cmp [8] (vName 8) (asB (bi2 dLt (cal dLen (acons (bi2 dIx (var 4) (var 8)) anil)) (cst (.int 8)))) (var 8) (srcR rng1 (acons (var 5) anil))))
      (sseq (asg 8 [7] (bi2 dIx (var 7) (bi2 dIx (lstD (lstF (acons (bi2 dMod (bi2 dIx (var 6) (cst (.int 0))) (cal dLen (acons (var 7) anil))) (acons (bi2 dSub (cal dLen (acons (var 7) anil)) (cst (.int 1))) (acons (cst (.int 0)) (acons (bi2 dMod (bi2 dIx (var 6) (cst (.int 0))) (cal dLen (acons (var 7) anil))) anil)))))) (bi2 dMod (bi2 dIx (var 6) (cst (.int 1))) (cst (.int 4))))))
      (insP 4 [4] (pai pav (var 8)) (acons (bi2 dMod (bi2 dIx (var 6) (cst (.int 2))) (bi2 dAdd (cal dLen (acons (bi2 dIx (var 4) (var 8)) anil)) (cst (.int 1)))) (acons (var 5) anil))))))
def insbody : Env' → Res := (ins 10 [10] (acons (bi2 dMod (bi2 dIx (var 6) (bi2 dAdd (cst (.int 2)) (bi2 dMul (cst (.int 2)) (var 11)))) (bi2 dAdd (cal dLen (acons (var 10) anil)) (cst (.int 1)))) (acons (bi2 dIx (lstD (lstF (acons (tupD (acons (cst (.str "do")) anil)) (acons (tupD (acons (cst (.str "wait")) anil)) (acons (tupD (acons (cst (.str "do")) anil)) anil))))) (bi2 dMod (bi2 dIx (var 6) (bi2 dAdd (cst (.int 3)) (bi2 dMul (cst (.int 2)) (var 11)))) (cst (.int 3)))) anil)))
def jwbody : Env' → Res := (sseq (asg 6 [] (slc (cal f_law_digits (acons (cal f_law_at (acons (var 0) (acons (var 5) anil))) (acons (cst (.int 48)) anil))) (osome (cst (.int 24))) onone))
      (sseq (asgC 10 0 [4] (cmp [12] (vName 12) yes (tupD (acons (cst (.str "send")) (acons (var 12) anil))) (srcE (bi2 dIx (var 4) (var 5)))))
      (sseq (sforR rng1 [10] (bName 11) (acons (cal dMin (acons (bi2 dSub (cst (.int 8)) (cal dLen (acons (var 10) anil))) (acons (bi2 dIx (lstD (lstF (acons (cst (.int 0)) (acons (cst (.int 1)) (acons (cst (.int 2)) (acons (cst (.int 3)) (acons (bi2 dAdd (cst (.int 4)) (bi2 dMod (bi2 dIx (var 6) (cst (.int 18))) (cst (.int 5)))) anil))))))) (bi2 dMod (bi2 dIx (var 6) (cst (.int 1))) (cst (.int 5)))) anil))) anil)
        insbody)
      (sseq (sif [10] (asB (bi2 dEq (var 10) (lstD (lstF anil))))
        (asgF 10 [] (lstF (acons (tupD (acons (cst (.str "do")) anil)) anil)))
        snext)
      (app 9 [10] (tupD (acons (bi2 dAdd (cst (.int 1)) (bi2 dMod (bi2 dIx (var 6) (cst (.int 0))) (cst (.int 9)))) (acons (cal dTuple (acons (var 10) anil)) anil))))))))
theorem law_job_def : m_law_job = (sseq (asg 2 [] (cal f_law_digits (acons (cal f_law_at (acons (var 0) (acons (cst (.int 0)) anil))) (acons (cst (.int 10)) anil))))
    (sseq (asg 3 [] (cal dMax (acons (cst (.int 1)) (acons (bi2 dIx (lstD (lstF (acons (bi2 dAdd (cst (.int 1)) (bi2 dMod (bi2 dIx (var 2) (cst (.int 0))) (var 1))) (acons (var 1) (acons (bi2 dSub (var 1) (bi2 dMod (bi2 dIx (var 2) (cst (.int 0))) (cst (.int 2)))) (acons (bi2 dAdd (cst (.int 1)) (bi2 dMod (bi2 dIx (var 2) (cst (.int 0))) (cal dMin (acons (cst (.int 4)) (acons (var 1) anil))))) anil)))))) (bi2 dMod (bi2 dIx (var 2) (cst (.int 1))) (cst (.int 4)))) anil))))
    (sseq (asgX 4 2 [] (lstD (cmp [5] (vName 5) yes (lstD (lstF anil)) (srcR rng1 (acons (var 3) anil)))))
    (sseq (sforR rng2 [] (bName 5) (acons (cst (.int 1)) (acons (var 3) anil))
      kbody)
    (sseq (asgF 9 [] (lstF anil))
    (sseq (sforR rng1 [] (bName 5) (acons (var 3) anil)
      jwbody)
    (Bv.ret [9] (cal dTuple (acons (var 9) anil))))))))) := rfl
theorem upTo_succ {k : Nat} (h : 1 ≤ k) : upTo (k + 1) = upTo k ++ [(k : Int)] := by
  obtain ⟨j, rfl⟩ : ∃ j, k = j + 1 := ⟨k - 1, by omega⟩
  unfold upTo
  rw [show j + 1 + 1 - 1 = j + 1 by omega, show j + 1 - 1 = j by omega, List.range_succ, List.map_append]
  congr 1
  simp only [List.map_cons, List.map_nil]
  congr 1
  omega
theorem upTo_len (k : Nat) : (upTo k).length = k - 1 := by simp [upTo]
theorem set_perm {A : Type} {r r' : List A} {x : A} (hp : r'.Perm (x :: r)) : ∀ {K : List (List A)} {p : Nat}, K[p]? = some r → ((K.set p r').flatten).Perm (x :: K.flatten)
  | [], p, h => by simp at h
  | q :: K, 0, h => by
    simp only [List.getElem?_cons_zero, Option.some.injEq] at h
    subst h
    rw [List.set_cons_zero, List.flatten_cons, List.flatten_cons]
    exact hp.append_right _
  | q :: K, p + 1, h => by
    rw [List.set_cons_succ, List.flatten_cons, List.flatten_cons]
    have := set_perm hp (K := K) (p := p) (by simpa using h)
    exact (this.append_left q).trans List.perm_middle
theorem big8 : ∀ L : List (List Int), (∀ r ∈ L, 8 ≤ r.length) → 8 * L.length ≤ L.flatten.length
  | [], _ => by simp
  | r :: L, h => by
    have := big8 L fun x hx => h x (List.mem_cons_of_mem _ hx)
    have := h r List.mem_cons_self
    simp only [List.length_cons, List.flatten_cons, List.length_append]
    omega
theorem free_ex {K : List (List Int)} {k : Nat} (hk : 1 ≤ k) (hm : k ≤ K.length) (hp : K.flatten.Perm (upTo k)) : ∃ p, p < k ∧ (K.getD p []).length < 8 := by
  refine Classical.byContradiction fun hn => ?_
  have h8 : ∀ r ∈ K.take k, 8 ≤ r.length := by
    intro r hr
    obtain ⟨i, hi, e⟩ := List.mem_iff_getElem.mp hr
    rw [List.length_take] at hi
    refine Classical.byContradiction fun h9 => hn ⟨i, by omega, ?_⟩
    rw [List.getD_eq_getElem?_getD, List.getElem?_eq_getElem (by omega), Option.getD_some]
    rw [List.getElem_take] at e
    rw [e]
    omega
  have h1 := big8 _ h8
  have e := hp.length_eq
  rw [upTo_len] at e
  have e2 : K.flatten.length = (K.take k).flatten.length + (K.drop k).flatten.length := by
    rw [← List.length_append, ← List.flatten_append, List.take_append_drop]
  rw [List.length_take] at h1
  omega
def kidsD (K : List (List Int)) : D := .list (K.map fun r => .list (r.map .int))
structure Kd (m i : Nat) (K : List (List Int)) : Prop where
  len : K.length = m
  few : ∀ r ∈ K, r.length ≤ 8
  up : ∀ (j : Nat) (r : List Int), K[j]? = some r → ∀ c ∈ r, (j : Int) < c
  perm : K.flatten.Perm (upTo i)
theorem Kd.put {m k : Nat} {K : List (List Int)} (h : Kd m k K) (hk : 1 ≤ k) {p : Nat} {r : List Int} (hp : p < k) (hr : K[p]? = some r) (h8 : r.length < 8) (at_ : Nat) :
    Kd m (k + 1) (K.set p (r.take at_ ++ [(k : Int)] ++ r.drop at_)) := by
  have pr : (r.take at_ ++ [(k : Int)] ++ r.drop at_).Perm ((k : Int) :: r) := by
    rw [List.append_assoc]
    have := List.perm_middle (a := (k : Int)) (l₁ := r.take at_) (l₂ := r.drop at_)
    rw [List.take_append_drop] at this
    exact this
  refine ⟨by rw [List.length_set]; exact h.len, fun q hq => ?_, fun j q hj c hc => ?_, ?_⟩
  · rcases List.mem_or_eq_of_mem_set hq with hq | rfl
    · exact h.few q hq
    · have := pr.length_eq
      rw [List.length_cons] at this
      omega
  · rw [List.getElem?_set] at hj
    split at hj
    · rename_i e
      subst e
      split at hj
      · cases hj
        rcases List.mem_cons.mp (pr.mem_iff.mp hc) with rfl | hc
        · omega
        · exact h.up p r hr c hc
      · cases hj
    · exact h.up j q hj c hc
  · rw [upTo_succ hk]
    exact (set_perm pr hr).trans ((h.perm.cons _).trans (List.perm_append_singleton _ _).symm)
theorem ns_get {ns : List Int} (h : Ns ns) {i : Int} (h0 : 0 ≤ i) (h1 : i < ns.length) : ∃ v, ixD (ns.map .int) i = .ok (.int v) ∧ 0 ≤ v ∧ v < 2 ^ 30 :=
  int_of (fun v => 0 ≤ v ∧ v < 2 ^ 30) h0 (by simpa using h1) fun d hd => by obtain ⟨c, hc, rfl⟩ := List.mem_map.mp hd; exact ⟨c, rfl, h c hc⟩
theorem Ns.drop {ns : List Int} (h : Ns ns) (n : Nat) : Ns (ns.drop n) := fun v hv => h v (List.mem_of_mem_drop hv)
theorem part_at (xs : List Int) {k : Int} (h0 : 0 ≤ k) (many j : Nat) (hm : many ≤ 1000) : ∃ (c : Int) (ns0 ns : List Int), f_law_at [.list (xs.map .int), .int k] = .ok (.int c) ∧ f_law_digits [.int c, .int (many : Nat)] = .ok (.list (ns0.map .int)) ∧
    cutD (ns0.map .int) (some (j : Int)) none = ns.map .int ∧ ns.length = many - j ∧ Ns ns := by
  obtain ⟨c, hc⟩ := law_at_at xs h0
  obtain ⟨ns0, hd, hl, hn⟩ := digits_at c (many := (many : Int)) (by omega) (by omega)
  refine ⟨c, ns0, ns0.drop j, hc, hd, ?_, ?_, hn.drop j⟩
  · rw [cut_hi _ (by omega), List.map_drop]
    congr 1
  · rw [List.length_drop]; omega
theorem insP_at {j n m : Nat} {M : List Nat} {fp : Vw → Nat → D → Rv Foc} {f : Vw → Rv (List D)} {ρ : Env'} {d y : D} {xs : List D} {put : D → D} {i : Int} (h : ρ[j]? = some (.ow n d)) (hp : fp (vw [] ρ) n d = .ok (m + 1, .list xs, put)) (hf : f (vw M ρ) = .ok [.int i, y]) (hl : xs.length < 16000000) (h0 : 0 ≤ i) (h1 : i < 1000000000) (hi : imm y = true) :
    insP j M fp f ρ = .nx (ρ.set j (.ow n (put (.list (xs.take i.toNat ++ [y] ++ xs.drop i.toNat))))) := by
  unfold insP
  rw [h]
  simp only [hp, Rv.st_ok, hf]
  rw [if_pos ⟨hl, h0, h1, hi⟩]
theorem path_ix {n : Nat} {xs : List D} {p : Nat} {x : D} (hx : xs[p]? = some x) {η : Vw} {f : Vw → Rv D} (hf : f η = .ok (.int p)) : pai pav f η (n + 1) (.list xs) = .ok (n, x, fun z => .list (xs.set p z)) := by
  have hlt := (List.getElem?_eq_some_iff.mp hx).1
  have e : ixN xs.length (p : Int) = some p := by
    unfold ixN
    rw [if_pos (by omega : (0 : Int) ≤ (p : Int)), if_pos (by omega), Int.toNat_natCast]
  unfold pai pav
  simp only [Rv.bind_ok, hf]
  show (match ixN xs.length (p : Int) with | some k => (match xs[k]? with | some x => (Rv.ok (n, x, fun y => id (PyData.list (xs.set k y))) : Rv Foc) | none => .un) | none => .un) = _
  rw [e]
  dsimp only
  rw [hx]
  rfl
theorem kids_path {K : List (List Int)} {p : Nat} {r : List Int} (hr : K[p]? = some r) {η : Vw} {f : Vw → Rv D} (hf : f η = .ok (.int p)) : pai pav f η 2 (kidsD K) = .ok (1, .list (r.map .int), fun z => .list ((K.map fun r => .list (r.map .int)).set p z)) :=
  path_ix (by rw [List.getElem?_map, hr]; rfl) hf
theorem kids_get {K : List (List Int)} {p : Nat} {r : List Int} (hr : K[p]? = some r) : ixD (K.map fun r => (.list (r.map .int) : D)) (p : Nat) = .ok (.list (r.map .int)) := ixD_nat (by omega) (by rw [Int.toNat_natCast, List.getElem?_map, hr]; rfl)
theorem kbody_at (xs : List Int) {K : List (List Int)} {m k : Nat} (h : Kd m k K) (hk : 1 ≤ k) (hkm : k < m) (hm : m ≤ 12) (s1 s2 s3 : D) (e6 e7 e8 : Sl) :
    ∃ K' e6' e7' e8', Kd m (k + 1) K' ∧ kbody [.fz (.list (xs.map .int)), .fz s1, .fz s2, .fz s3, .ow 2 (kidsD K), .fz (.int (k : Nat)), e6, e7, e8, .un, .un, .un, .un] =
      .nx [.fz (.list (xs.map .int)), .fz s1, .fz s2, .fz s3, .ow 2 (kidsD K'), .fz (.int (k : Nat)), e6', e7', e8', .un, .un, .un, .un] := by
  obtain ⟨c, ns0, ns, hc, hd, hcut, hl, hn⟩ := part_at xs (k := (k : Nat)) (by omega) 24 16 (by decide)
  obtain ⟨v0, q0, b0, _⟩ := ns_get hn (i := 0) (by decide) (by omega)
  obtain ⟨v1, q1, b1, _⟩ := ns_get hn (i := 1) (by decide) (by omega)
  obtain ⟨v2, q2, b2, _⟩ := ns_get hn (i := 2) (by decide) (by omega)
  have hK := h.len
  -- the free places
  obtain ⟨fr, hfr⟩ : ∃ fr, fr = (List.range k).filter fun p => decide ((K.getD p []).length < 8) := ⟨_, rfl⟩
  have hne : fr.length ≠ 0 := by
    obtain ⟨p, hp, h8⟩ := free_ex hk (by omega) h.perm
    intro e
    have : p ∈ fr := by rw [hfr]; exact List.mem_filter.mpr ⟨List.mem_range.mpr hp, decide_eq_true h8⟩
    rw [List.eq_nil_of_length_eq_zero e] at this
    cases this
  have hall : ∀ p ∈ fr, p < k ∧ (K.getD p []).length < 8 := by
    intro p hp
    rw [hfr] at hp
    simpa only [List.mem_filter, List.mem_range, decide_eq_true_eq] using hp
  have hle : fr.length ≤ k := by rw [hfr]; have := List.length_filter_le (fun p => decide ((K.getD p []).length < 8)) (List.range k); rwa [List.length_range] at this
  have hcmp : ∀ η6 η7 : Option D, compL (vName 8) (asB (bi2 dLt (cal dLen (acons (bi2 dIx (var 4) (var 8)) anil)) (cst (.int 8)))) (var 8) (rangeD 0 (k : Nat)) [some (.list (xs.map .int)), some s1, some s2, some s3, some (kidsD K), some (.int (k : Nat)), η6, η7, none, none, none, none, none] = .ok (fr.map fun p => .int (p : Nat)) := by
    intro η6 η7
    have er : rangeD 0 (k : Nat) = (List.range k).map fun p => (.int ((p : Nat) : Int) : D) := by
      unfold rangeD
      rw [show ((k : Nat) - (0 : Int)).toNat = k by omega]
      exact List.map_congr_left fun p _ => by rw [Int.zero_add]
    rw [er, hfr]
    refine compL_filter fun p hp => ⟨_, rfl, ?_, fun _ => by simp⟩
    have hp := List.mem_range.mp hp
    have hr := kids_get (K := K) (p := p) (List.getElem?_eq_getElem (by omega))
    unfold kidsD
    rw [List.getD_eq_getElem?_getD, List.getElem?_eq_getElem (show p < K.length by omega), Option.getD_some]
    simp -implicitDefEqProofs [hr]
    omega
  have hfl : (fr.map fun p => (.int ((p : Nat) : Int) : D)).length = fr.length := List.length_map _
  have hdm : dMod (.int v0) (.int (fr.length : Nat)) = .ok (.int (v0 % (fr.length : Nat))) := dMod_ok (by omega)
  have x0 := Int.emod_nonneg v0 (show ((fr.length : Nat) : Int) ≠ 0 by omega)
  have x1 := Int.emod_lt_of_pos v0 (show (0 : Int) < (fr.length : Nat) by omega)
  have hd4 : dMod (.int v1) (.int 4) = .ok (.int (v1 % 4)) := dMod_ok (by decide)
  have y0 := Int.emod_nonneg v1 (show (4 : Int) ≠ 0 by decide)
  have y1 := Int.emod_lt_of_pos v1 (show (0 : Int) < 4 by decide)
  generalize v0 % (fr.length : Nat) = m0 at hdm x0 x1
  generalize v1 % 4 = m1 at hd4 y0 y1
  obtain ⟨w, hw, w0, w1⟩ := int_of (xs := [.int m0, .int ((fr.length : Nat) - 1), .int 0, .int m0]) (i := m1) (fun w => 0 ≤ w ∧ w < (fr.length : Nat)) y0 (by simpa using y1) (by
    intro d hd
    simp only [List.mem_cons, List.not_mem_nil, or_false] at hd
    rcases hd with rfl | rfl | rfl | rfl
    · exact ⟨_, rfl, x0, x1⟩
    · exact ⟨_, rfl, by omega, by omega⟩
    · exact ⟨_, rfl, by omega, by omega⟩
    · exact ⟨_, rfl, x0, x1⟩)
  obtain ⟨p, hp, hpk, hp8⟩ : ∃ p : Nat, ixD (fr.map fun p => (.int ((p : Nat) : Int) : D)) w = .ok (.int (p : Nat)) ∧ p < k ∧ (K.getD p []).length < 8 := by
    have hwl : w.toNat < fr.length := by omega
    refine ⟨fr[w.toNat], ixD_nat w0 (by rw [List.getElem?_map, List.getElem?_eq_getElem hwl]; rfl), ?_⟩
    exact hall _ (List.getElem_mem hwl)
  have hr : K[p]? = some K[p] := List.getElem?_eq_getElem (by omega)
  rw [List.getD_eq_getElem?_getD, hr, Option.getD_some] at hp8
  have hg := kids_get hr
  generalize K[p]'(by omega) = r at hr hp8 hg
  have hd3 : dMod (.int v2) (.int ((r.length : Nat) + 1)) = .ok (.int (v2 % ((r.length : Nat) + 1))) := dMod_ok (by omega)
  have z0 := Int.emod_nonneg v2 (show ((r.length : Nat) : Int) + 1 ≠ 0 by omega)
  have z1 := Int.emod_lt_of_pos v2 (show (0 : Int) < (r.length : Nat) + 1 by omega)
  generalize v2 % ((r.length : Nat) + 1) = at_ at hd3 z0 z1
  refine ⟨K.set p (r.take at_.toNat ++ [(k : Int)] ++ r.drop at_.toNat), .fz (.list (ns.map .int)), .ow 1 (.list (fr.map fun p => .int (p : Nat))), .fz (.int (p : Nat)), h.put hk hpk hr hp8 _, ?_⟩
  have him : immA (fr.map fun p => (.int ((p : Nat) : Int) : D)) = true := immA_of fun d hd => by obtain ⟨q, _, rfl⟩ := List.mem_map.mp hd; rfl
  have rk : rng1 [.int (k : Nat)] = .ok (rangeD 0 (k : Nat)) := by rw [rng1_i, if_pos (rngOk_of (by omega) (by omega))]
  have rl : (rangeD 0 (k : Nat)).length ≤ 16000000 := by rw [rangeD_len]; omega
  have e24 : f_law_digits [.int c, .int 24] = .ok (.list (ns0.map .int)) := hd
  have e16 : cutD (ns0.map .int) (some 16) none = ns.map .int := hcut
  unfold kbody
  simp -implicitDefEqProofs [hc, e24, e16]
  simp -implicitDefEqProofs [rk, rl, hcmp, him]
  simp -implicitDefEqProofs [q0, q1, hfl, hdm, hd4, hw, hp]
  rw [insP_at (n := 2) (d := kidsD K) (m := 0) (i := at_) (y := .int (k : Nat)) rfl (kids_path hr (by simp)) (by unfold kidsD; simp -implicitDefEqProofs [q2, hg, hd3]) (by simp; omega) z0 (by omega) rfl]
  simp only [List.set_cons_zero, List.set_cons_succ]
  have eK : (PyData.list ((K.map fun r => (.list (r.map .int) : D)).set p (.list ((r.map PyData.int).take at_.toNat ++ [.int (k : Nat)] ++ (r.map PyData.int).drop at_.toNat)))) = kidsD (K.set p (r.take at_.toNat ++ [(k : Int)] ++ r.drop at_.toNat)) := by
    unfold kidsD
    rw [← List.map_take, ← List.map_drop, List.map_set]
    simp
  rw [eK]
  simp only [List.append_assoc, List.singleton_append, List.cons_append, List.nil_append]
def sndOf (c : Int) : Stp := .snd ⟨c.toNat % 12, Nat.mod_lt _ (by decide)⟩
theorem sndOf_d {c : Int} (h0 : 0 ≤ c) (h1 : c < 12) : (sndOf c).d = .tuple [.str "send", .int c] := by
  unfold sndOf Stp.d
  have : ((c.toNat % 12 : Nat) : Int) = c := by omega
  simp only [this]
theorem sndOf_num {c : Int} (h0 : 0 ≤ c) (h1 : c < 12) : (sndOf c).num = c := by
  unfold sndOf Stp.num
  show ((c.toNat % 12 : Nat) : Int) = c
  omega
theorem snds_num {r : List Int} (h : ∀ c ∈ r, 0 ≤ c ∧ c < 12) : (r.map sndOf).map Stp.num = r := by
  rw [List.map_map]
  exact (List.map_congr_left fun c hc => sndOf_num (h c hc).1 (h c hc).2).trans (List.map_id' r)
theorem snds_d {r : List Int} (h : ∀ c ∈ r, 0 ≤ c ∧ c < 12) : (r.map sndOf).map Stp.d = r.map fun c => .tuple [.str "send", .int c] := by
  rw [List.map_map]
  exact List.map_congr_left fun c hc => sndOf_d (h c hc).1 (h c hc).2
theorem snds_flt : ∀ r : List Int, (r.map sndOf).filter Stp.isSnd = r.map sndOf
  | [] => rfl
  | c :: r => by
    rw [List.map_cons, List.filter_cons_of_pos rfl, snds_flt r]
theorem ins_at {j n : Nat} {M : List Nat} {f : Vw → Rv (List D)} {ρ : Env'} {xs : List D} {i : Int} {y : D} (h : ρ[j]? = some (.ow (n + 1) (.list xs))) (hf : f (vw M ρ) = .ok [.int i, y]) (hl : xs.length < 16000000) (h0 : 0 ≤ i) (h1 : i < 1000000000) (hi : imm y = true) :
    ins j M f ρ = .nx (ρ.set j (.ow (n + 1) (.list (xs.take i.toNat ++ [y] ++ xs.drop i.toNat)))) := by
  unfold ins
  rw [h]
  simp only [hf, Rv.st_ok]
  rw [if_pos ⟨hl, h0, h1, hi⟩]
def eJ (X s1 s2 s3 : D) (K : List (List Int)) (k : Nat) (e6 e7 e8 : Sl) (ws : List D) (e10 e11 : Sl) : Env' := [.fz X, .fz s1, .fz s2, .fz s3, .ow 2 (kidsD K), .fz (.int (k : Nat)), e6, e7, e8, .ow 1 (.list ws), e10, e11, .un]
theorem insbody_at (X s1 s2 s3 : D) (K : List (List Int)) (k : Nat) {ns : List Int} (hn : Ns ns) (hnl : ns.length = 24) (e7 e8 : Sl) (ws : List D) (ss : List Stp) (j : Nat) (hj : j < 8) (hs : ss.length ≤ 8) :
    ∃ ss' : List Stp, ss'.length = ss.length + 1 ∧ ss'.filter Stp.isSnd = ss.filter Stp.isSnd ∧ insbody (eJ X s1 s2 s3 K k (.fz (.list (ns.map .int))) e7 e8 ws (.ow 1 (.list (ss.map Stp.d))) (.fz (.int (j : Nat)))) =
      .nx (eJ X s1 s2 s3 K k (.fz (.list (ns.map .int))) e7 e8 ws (.ow 1 (.list (ss'.map Stp.d))) (.fz (.int (j : Nat)))) := by
  obtain ⟨v2, q2, b2, _⟩ := ns_get hn (i := 2 + 2 * (j : Int)) (by omega) (by omega)
  obtain ⟨v3, q3, b3, _⟩ := ns_get hn (i := 3 + 2 * (j : Int)) (by omega) (by omega)
  have mj : dMul (.int 2) (.int (j : Nat)) = .ok (.int (2 * (j : Nat))) := dMul_ok (by decide) (by decide)
  have hd3 : dMod (.int v2) (.int ((ss.length : Nat) + 1)) = .ok (.int (v2 % ((ss.length : Nat) + 1))) := dMod_ok (by omega)
  have z0 := Int.emod_nonneg v2 (show ((ss.length : Nat) : Int) + 1 ≠ 0 by omega)
  have z1 := Int.emod_lt_of_pos v2 (show (0 : Int) < (ss.length : Nat) + 1 by omega)
  generalize v2 % ((ss.length : Nat) + 1) = at_ at hd3 z0 z1
  have hd4 : dMod (.int v3) (.int 3) = .ok (.int (v3 % 3)) := dMod_ok (by decide)
  have y0 := Int.emod_nonneg v3 (show (3 : Int) ≠ 0 by decide)
  have y1 := Int.emod_lt_of_pos v3 (show (0 : Int) < 3 by decide)
  generalize v3 % 3 = m3 at hd4 y0 y1
  obtain ⟨d, hw, s, rfl, hsn⟩ := pick (xs := [.tuple [.str "do"], .tuple [.str "wait"], .tuple [.str "do"]]) (i := m3) (fun d => ∃ s : Stp, d = s.d ∧ s.isSnd = false) y0 (by simpa using y1) (by
    intro d hd
    simp only [List.mem_cons, List.not_mem_nil, or_false] at hd
    rcases hd with rfl | rfl | rfl
    · exact ⟨.dow, rfl, rfl⟩
    · exact ⟨.wai, rfl, rfl⟩
    · exact ⟨.dow, rfl, rfl⟩)
  have hlen : (ss.map Stp.d).length = ss.length := List.length_map _
  refine ⟨ss.take at_.toNat ++ [s] ++ ss.drop at_.toNat, ?_, ?_, ?_⟩
  · simp only [List.length_append, List.length_take, List.length_drop, List.length_cons, List.length_nil]; omega
  · rw [List.filter_append, List.filter_append, List.filter_cons_of_neg (by rw [hsn]; decide), List.filter_nil, List.append_nil, ← List.filter_append, List.take_append_drop]
  · unfold insbody eJ
    have hsi : imm s.d = true := by cases s <;> rfl
    rw [ins_at (n := 0) (xs := ss.map Stp.d) (i := at_) (y := s.d) rfl (by simp -implicitDefEqProofs [mj, q2, q3, hd3, hd4, hw]) (by omega) z0 (by omega) hsi]
    simp only [List.set_cons_zero, List.set_cons_succ]
    rw [← List.map_take, ← List.map_drop]
    simp
theorem jwbody_at (xs : List Int) (s1 s2 s3 : D) {K : List (List Int)} {k : Nat} {r : List Int} (hr : K[k]? = some r) (hk : k < 12) (h8 : r.length ≤ 8) (hc : ∀ c ∈ r, 0 ≤ c ∧ c < 12) (e6 e7 e8 : Sl) (ws : List D) (hws : ws.length ≤ 12) (e10 e11 : Sl) :
    ∃ (w : Wk) (e6' e10' e11' : Sl), w.ok ∧ w.snds = r ∧ jwbody (eJ (.list (xs.map .int)) s1 s2 s3 K k e6 e7 e8 ws e10 e11) = .nx (eJ (.list (xs.map .int)) s1 s2 s3 K k e6' e7 e8 (ws ++ [w.d]) e10' e11') := by
  obtain ⟨c, ns0, ns, hcc, hd, hcut, hl, hn⟩ := part_at xs (k := (k : Nat)) (by omega) 48 24 (by decide)
  have e48 : f_law_digits [.int c, .int 48] = .ok (.list (ns0.map .int)) := hd
  have e24 : cutD (ns0.map .int) (some 24) none = ns.map .int := hcut
  obtain ⟨v0, q0, b0, _⟩ := ns_get hn (i := 0) (by decide) (by omega)
  obtain ⟨v1, q1, b1, _⟩ := ns_get hn (i := 1) (by decide) (by omega)
  obtain ⟨v18, q18, b18, _⟩ := ns_get hn (i := 18) (by decide) (by omega)
  obtain ⟨S0, hS0⟩ : ∃ S0, S0 = r.map sndOf := ⟨_, rfl⟩
  have fS := snds_flt r
  have nS := snds_num hc
  have dS := snds_d hc
  have lS : S0.length = r.length := by rw [hS0, List.length_map]
  rw [← hS0] at fS nS dS
  have hg : dIx (kidsD K) (.int (k : Nat)) = .ok (.list (r.map .int)) := kids_get hr
  -- the sends
  have hcmp : ∀ η6 η7 η8 η9 η10 η11 : Option D, compL (vName 12) yes (tupD (acons (cst (.str "send")) (acons (var 12) anil))) (r.map .int) [some (.list (xs.map .int)), some s1, some s2, some s3, some (kidsD K), some (.int (k : Nat)), η6, η7, η8, η9, η10, η11, none] = .ok (r.map fun c => .tuple [.str "send", .int c]) := by
    intro η6 η7 η8 η9 η10 η11
    exact compL_map fun c _ => ⟨_, rfl, rfl, by simp⟩
  rw [← dS] at hcmp
  have him : immA ((S0).map Stp.d) = true := immA_of fun d hd => by obtain ⟨s, _, rfl⟩ := List.mem_map.mp hd; cases s <;> rfl
  have hd9 : dMod (.int v0) (.int 9) = .ok (.int (v0 % 9)) := dMod_ok (by decide)
  have x0 := Int.emod_nonneg v0 (show (9 : Int) ≠ 0 by decide)
  have x1 := Int.emod_lt_of_pos v0 (show (0 : Int) < 9 by decide)
  generalize v0 % 9 = m0 at hd9 x0 x1
  have hd5 : dMod (.int v1) (.int 5) = .ok (.int (v1 % 5)) := dMod_ok (by decide)
  have y0 := Int.emod_nonneg v1 (show (5 : Int) ≠ 0 by decide)
  have y1 := Int.emod_lt_of_pos v1 (show (0 : Int) < 5 by decide)
  generalize v1 % 5 = m1 at hd5 y0 y1
  have hd18 : dMod (.int v18) (.int 5) = .ok (.int (v18 % 5)) := dMod_ok (by decide)
  have u0 := Int.emod_nonneg v18 (show (5 : Int) ≠ 0 by decide)
  generalize v18 % 5 = m18 at hd18 u0
  obtain ⟨cnt, hcnt, c0⟩ := int_of (xs := [.int 0, .int 1, .int 2, .int 3, .int (4 + m18)]) (i := m1) (fun w => 0 ≤ w) y0 (by simpa using y1) (by
    intro d hd
    simp only [List.mem_cons, List.not_mem_nil, or_false] at hd
    rcases hd with rfl | rfl | rfl | rfl | rfl <;> exact ⟨_, rfl, by omega⟩)
  obtain ⟨n, hmin, hn0, hn1⟩ : ∃ n : Nat, (if cnt < 8 - (r.length : Int) then cnt else 8 - (r.length : Int)) = (n : Nat) ∧ n ≤ 8 - r.length ∧ True := by
    refine ⟨(if cnt < 8 - (r.length : Int) then cnt else 8 - (r.length : Int)).toNat, ?_, ?_, trivial⟩ <;> split <;> omega
  have hrg : rng1 [.int (n : Nat)] = .ok (rangeD 0 (n : Nat)) := by rw [rng1_i, if_pos (rngOk_of (by omega) (by omega))]
  -- what is put in between
  obtain ⟨ρ', q, ss, e11', rfl, hsl, hsf⟩ := forL_ix (b := bName 11) (g := insbody) (xs := rangeD 0 (n : Nat)) (k := 0) (ρ := eJ (.list (xs.map .int)) s1 s2 s3 K k (.fz (.list (ns.map .int))) e7 e8 ws (.ow 1 (.list ((S0).map Stp.d))) e11)
    (fun j ρ => ∃ (ss : List Stp) (e11' : Sl), ρ = eJ (.list (xs.map .int)) s1 s2 s3 K k (.fz (.list (ns.map .int))) e7 e8 ws (.ow 1 (.list (ss.map Stp.d))) e11' ∧ ss.length = r.length + j ∧ ss.filter Stp.isSnd = S0)
    ⟨S0, e11, rfl, by omega, fS⟩ (by
      rintro i d hi ρ ⟨ss, e11', rfl, h1, h2⟩
      have hlt := (List.getElem?_eq_some_iff.mp hi).1
      rw [rangeD_len] at hlt
      rw [rangeD_get hlt, Int.zero_add] at hi
      cases hi
      rw [Nat.zero_add] at h1 ⊢
      obtain ⟨ss', l', f', hb⟩ := insbody_at (.list (xs.map .int)) s1 s2 s3 K k hn hl e7 e8 ws ss i (by omega) (by omega)
      exact ⟨_, _, rfl, hb, ss', _, rfl, by omega, f'.trans h2⟩)
  rw [rangeD_len, Nat.zero_add] at hsl
  have hnl : ((n : Int) - 0).toNat = n := by omega
  rw [hnl] at hsl
  -- none is empty
  have hq : dEq (.list (ss.map Stp.d)) (.list []) = .ok (.bool ss.isEmpty) := by
    rw [dEq_row fun d hd => by
      obtain ⟨s, _, rfl⟩ := List.mem_map.mp hd
      have := stp_flat2 s
      exact ⟨this.1, this.2.1, by omega⟩]
    simp
  obtain ⟨ss2, hss2, h2a, h2b⟩ : ∃ ss2 : List Stp, ss2 = (if ss.isEmpty then [Stp.dow] else ss) ∧ (1 ≤ ss2.length ∧ ss2.length ≤ 8) ∧ ss2.filter Stp.isSnd = S0 := by
    refine ⟨_, rfl, ?_, ?_⟩
    · cases ss with
      | nil => exact ⟨by decide, by decide⟩
      | cons a b => simp only [List.isEmpty_cons, Bool.false_eq_true, if_false]; simp only [List.length_cons] at hsl ⊢; omega
    · cases ss with
      | nil => rw [← hsf]; rfl
      | cons a b => exact hsf
  refine ⟨⟨⟨m0.toNat, by omega⟩, ss2⟩, .fz (.list (ns.map .int)), .ow 1 (.list (ss2.map Stp.d)), e11', h2a, ?_, ?_⟩
  · unfold Wk.snds
    rw [h2b]
    exact nS
  have hwd : (Wk.mk ⟨m0.toNat, by omega⟩ ss2).d = .tuple [.int (1 + m0), .tuple (ss2.map Stp.d)] := by
    unfold Wk.d Rm
    show PyData.tuple [.int ((m0.toNat : Int) + 1), _] = _
    rw [show ((m0.toNat : Int) + 1) = 1 + m0 by omega]
  rw [hwd]
  have him2 : immA (ss2.map Stp.d) = true := immA_of fun d hd => by obtain ⟨s, _, rfl⟩ := List.mem_map.mp hd; cases s <;> rfl
  have l0 : r.length ≤ 16000000 := by omega
  unfold eJ at q
  unfold jwbody eJ
  simp -implicitDefEqProofs [hcc, e48, e24, hg, hcmp, him, l0]
  simp -implicitDefEqProofs [q1, q18, hd5, hd18, hcnt, lS, hmin, hrg]
  rw [q, sq_nx, sseq_def]
  clear q
  have e1 : (sif [10] (asB (bi2 dEq (var 10) (lstD (lstF anil)))) (asgF 10 [] (lstF (acons (tupD (acons (cst (.str "do")) anil)) anil))) snext) [.fz (.list (xs.map .int)), .fz s1, .fz s2, .fz s3, .ow 2 (kidsD K), .fz (.int (k : Nat)), .fz (.list (ns.map .int)), e7, e8, .ow 1 (.list ws), .ow 1 (.list (ss.map Stp.d)), e11', .un] =
      .nx [.fz (.list (xs.map .int)), .fz s1, .fz s2, .fz s3, .ow 2 (kidsD K), .fz (.int (k : Nat)), .fz (.list (ns.map .int)), e7, e8, .ow 1 (.list ws), .ow 1 (.list (ss2.map Stp.d)), e11', .un] := by
    subst hss2
    cases ss with
    | nil => simp -implicitDefEqProofs [hq]; rfl
    | cons a b =>
      rw [List.isEmpty_cons] at hq
      simp -implicitDefEqProofs only [sif_def, asB_def, bi2_def, vw_cons, vwF_cons, vwF_nil, vw1_fz, vw1_un, vw1_owd, lstD_def, lstF_def, anil_def, var_def]
      simp -implicitDefEqProofs at hq
      simp -implicitDefEqProofs [hq]
  rw [e1, sq_nx]
  have hx : (tupD (acons (bi2 dAdd (cst (.int 1)) (bi2 dMod (bi2 dIx (var 6) (cst (.int 0))) (cst (.int 9)))) (acons (cal dTuple (acons (var 10) anil)) anil))) (vw [10] [.fz (.list (xs.map .int)), .fz s1, .fz s2, .fz s3, .ow 2 (kidsD K), .fz (.int (k : Nat)), .fz (.list (ns.map .int)), e7, e8, .ow 1 (.list ws), .ow 1 (.list (ss2.map Stp.d)), e11', .un]) = .ok (.tuple [.int (1 + m0), .tuple (ss2.map Stp.d)]) := by
    simp -implicitDefEqProofs [q0, hd9, dTuple]
  rw [app1 (j := 9) rfl hx (by simp [him2]) (by omega)]
  simp only [List.set_cons_zero, List.set_cons_succ]
theorem range_ix {a b : Int} {i : Nat} {d : D} (hi : (rangeD a b)[i]? = some d) : d = .int (a + (i : Nat)) ∧ i < (b - a).toNat := by
  have hlt := (List.getElem?_eq_some_iff.mp hi).1
  rw [rangeD_len] at hlt
  rw [rangeD_get hlt] at hi
  cases hi
  exact ⟨rfl, hlt⟩
theorem Kd.start (m : Nat) : Kd m 1 (List.replicate m []) := by
  refine ⟨List.length_replicate, fun r hr => ?_, fun j r hj c hc => ?_, ?_⟩
  · rw [(List.mem_replicate.mp hr).2]; decide
  · rw [(List.mem_replicate.mp (List.mem_of_getElem? hj)).2] at hc
    cases hc
  · rw [List.flatten_replicate_nil]
    exact .refl _
theorem mem_upTo {n : Nat} {c : Int} (h : c ∈ upTo n) : 1 ≤ c ∧ c < n := by
  unfold upTo at h
  obtain ⟨i, hi, rfl⟩ := List.mem_map.mp h
  have := List.mem_range.mp hi
  omega
structure Jb (ws : List Wk) (most : Int) : Prop where
  ok : allOk ws
  l1 : 1 ≤ ws.length
  lm : (ws.length : Int) ≤ most
  up : ∀ (i : Nat) (w : Wk), ws[i]? = some w → ∀ c ∈ w.snds, (i : Int) < c
  perm : (sndsOf ws).Perm (upTo ws.length)
theorem kloop (xs : List Int) (s1 s2 s3 : D) {m : Nat} (h1 : 1 ≤ m) (hm : m ≤ 12) : ∃ (K : List (List Int)) (e5 e6 e7 e8 : Sl), Kd m m K ∧ forL (bName 5) kbody (rangeD 1 (m : Nat)) [.fz (.list (xs.map .int)), .fz s1, .fz s2, .fz s3, .ow 2 (kidsD (List.replicate m [])), .un, .un, .un, .un, .un, .un, .un, .un] =
    .nx [.fz (.list (xs.map .int)), .fz s1, .fz s2, .fz s3, .ow 2 (kidsD K), e5, e6, e7, e8, .un, .un, .un, .un] := by
  obtain ⟨ρ', q, K, e5, e6, e7, e8, hK, rfl⟩ := forL_ix (b := bName 5) (g := kbody) (xs := rangeD 1 (m : Nat)) (k := 0) (ρ := [.fz (.list (xs.map .int)), .fz s1, .fz s2, .fz s3, .ow 2 (kidsD (List.replicate m [])), .un, .un, .un, .un, .un, .un, .un, .un])
    (fun i ρ => ∃ (K : List (List Int)) (e5 e6 e7 e8 : Sl), Kd m (i + 1) K ∧ ρ = [.fz (.list (xs.map .int)), .fz s1, .fz s2, .fz s3, .ow 2 (kidsD K), e5, e6, e7, e8, .un, .un, .un, .un]) ⟨_, _, _, _, _, Kd.start m, rfl⟩ (by
      rintro i d hi ρ ⟨K, e5, e6, e7, e8, hK, rfl⟩
      obtain ⟨rfl, hlt⟩ := range_ix hi
      rw [Nat.zero_add] at hK ⊢
      obtain ⟨K', e6', e7', e8', hK', hb⟩ := kbody_at xs hK (by omega) (by omega) hm s1 s2 s3 e6 e7 e8
      refine ⟨_, _, rfl, ?_, K', .fz (.int ((i + 1 : Nat) : Int)), e6', e7', e8', hK', rfl⟩
      simp only [List.set_cons_zero, List.set_cons_succ]
      rw [show (1 : Int) + (i : Nat) = ((i + 1 : Nat) : Int) by omega]
      exact hb)
  rw [rangeD_len, show ((m : Int) - 1).toNat = m - 1 by omega, show 0 + (m - 1) + 1 = m by omega] at hK
  exact ⟨K, e5, e6, e7, e8, hK, q⟩
theorem jloop (xs : List Int) (s1 s2 s3 : D) {m : Nat} (hm : m ≤ 12) {K : List (List Int)} (hK : Kd m m K) (e5 e6 e7 e8 : Sl) : ∃ (ws : List Wk) (e5' e6' e10 e11 : Sl), ws.length = m ∧ allOk ws ∧ ws.map Wk.snds = K ∧ forL (bName 5) jwbody (rangeD 0 (m : Nat)) [.fz (.list (xs.map .int)), .fz s1, .fz s2, .fz s3, .ow 2 (kidsD K), e5, e6, e7, e8, .ow 1 (.list []), .un, .un, .un] =
    .nx [.fz (.list (xs.map .int)), .fz s1, .fz s2, .fz s3, .ow 2 (kidsD K), e5', e6', e7, e8, .ow 1 (.list (ws.map Wk.d)), e10, e11, .un] := by
  obtain ⟨ρ', q, ws, e5, e6, e10, e11, hl, ho, hs, rfl⟩ := forL_ix (b := bName 5) (g := jwbody) (xs := rangeD 0 (m : Nat)) (k := 0) (ρ := [.fz (.list (xs.map .int)), .fz s1, .fz s2, .fz s3, .ow 2 (kidsD K), e5, e6, e7, e8, .ow 1 (.list []), .un, .un, .un])
    (fun i ρ => ∃ (ws : List Wk) (e5' e6' e10 e11 : Sl), ws.length = i ∧ allOk ws ∧ ws.map Wk.snds = K.take i ∧ ρ = [.fz (.list (xs.map .int)), .fz s1, .fz s2, .fz s3, .ow 2 (kidsD K), e5', e6', e7, e8, .ow 1 (.list (ws.map Wk.d)), e10, e11, .un]) ⟨[], _, _, _, _, rfl, (fun w h => by cases h), by simp, rfl⟩ (by
      rintro i d hi ρ ⟨ws, e5', e6', e10, e11, hl, ho, hs, rfl⟩
      obtain ⟨rfl, hlt⟩ := range_ix hi
      rw [Nat.zero_add] at hl hs ⊢
      have hKl := hK.len
      have hi : i < K.length := by omega
      have hr : K[i]? = some K[i] := List.getElem?_eq_getElem hi
      obtain ⟨w, e6'', e10', e11', hw, hsn, hb⟩ := jwbody_at xs s1 s2 s3 hr (by omega) (hK.few _ (List.getElem_mem hi)) (fun c hc => by
        have := mem_upTo (hK.perm.mem_iff.mp (List.mem_flatten.mpr ⟨_, List.getElem_mem hi, hc⟩))
        omega) e6' e7 e8 (ws.map Wk.d) (by rw [List.length_map]; omega) e10 e11
      refine ⟨_, _, rfl, ?_, ws ++ [w], .fz (.int (i : Nat)), e6'', e10', e11', ?_, ?_, ?_, rfl⟩
      · simp only [List.set_cons_zero, List.set_cons_succ, Int.zero_add, List.map_append, List.map_cons, List.map_nil]
        exact hb
      · rw [List.length_append, hl]; rfl
      · intro x hx
        rcases List.mem_append.mp hx with hx | hx
        · exact ho x hx
        · rw [List.mem_singleton.mp hx]; exact hw
      · rw [List.map_append, hs, List.take_succ, hr]
        simp [hsn])
  rw [rangeD_len, Nat.zero_add, show ((m : Int) - 0).toNat = m by omega] at hl hs
  refine ⟨ws, e5, e6, e10, e11, hl, ho, ?_, q⟩
  rw [hs, List.take_of_length_le (by rw [hK.len]; exact Nat.le_refl _)]
theorem law_job_at (xs : List Int) {most : Int} (h1 : 1 ≤ most) (h12 : most ≤ 12) : ∃ ws, f_law_job [.list (xs.map .int), .int most] = .ok (jobD ws) ∧ Jb ws most := by
  obtain ⟨c, hc⟩ := law_at_at xs (k := 0) (by decide)
  obtain ⟨ns, hd, hl, hn⟩ := digits_at c (many := 10) (by decide) (by decide)
  obtain ⟨v0, q0, b0, _⟩ := ns_get hn (i := 0) (by decide) (by omega)
  obtain ⟨v1, q1, b1, _⟩ := ns_get hn (i := 1) (by decide) (by omega)
  have hdm : dMod (.int v0) (.int most) = .ok (.int (v0 % most)) := dMod_ok (by omega)
  have x0 := Int.emod_nonneg v0 (show most ≠ 0 by omega)
  have x1 := Int.emod_lt_of_pos v0 (show (0 : Int) < most by omega)
  generalize v0 % most = m0 at hdm x0 x1
  have hd2 : dMod (.int v0) (.int 2) = .ok (.int (v0 % 2)) := dMod_ok (by decide)
  have z0 := Int.emod_nonneg v0 (show (2 : Int) ≠ 0 by decide)
  have z1 := Int.emod_lt_of_pos v0 (show (0 : Int) < 2 by decide)
  generalize v0 % 2 = m2 at hd2 z0 z1
  obtain ⟨mn, hmn, n0, n1⟩ : ∃ mn : Int, (if most < 4 then most else 4) = mn ∧ 1 ≤ mn ∧ mn ≤ most := ⟨_, rfl, by split <;> omega, by split <;> omega⟩
  have hdn : dMod (.int v0) (.int mn) = .ok (.int (v0 % mn)) := dMod_ok (by omega)
  have u0 := Int.emod_nonneg v0 (show mn ≠ 0 by omega)
  have u1 := Int.emod_lt_of_pos v0 (show (0 : Int) < mn by omega)
  generalize v0 % mn = m3 at hdn u0 u1
  have hd4 : dMod (.int v1) (.int 4) = .ok (.int (v1 % 4)) := dMod_ok (by decide)
  have y0 := Int.emod_nonneg v1 (show (4 : Int) ≠ 0 by decide)
  have y1 := Int.emod_lt_of_pos v1 (show (0 : Int) < 4 by decide)
  generalize v1 % 4 = m1 at hd4 y0 y1
  obtain ⟨w, hw, w0, w1⟩ := int_of (xs := [.int (1 + m0), .int most, .int (most - m2), .int (1 + m3)]) (i := m1) (fun w => 0 ≤ w ∧ w ≤ most) y0 (by simpa using y1) (by
    intro d hd
    simp only [List.mem_cons, List.not_mem_nil, or_false] at hd
    rcases hd with rfl | rfl | rfl | rfl <;> exact ⟨_, rfl, by omega, by omega⟩)
  obtain ⟨m, hmx, hm1, hm2⟩ : ∃ m : Nat, (if 1 < w then w else 1) = (m : Nat) ∧ 1 ≤ m ∧ (m : Int) ≤ most := by
    refine ⟨(if 1 < w then w else 1).toNat, ?_, ?_, ?_⟩ <;> split <;> omega
  have hrg : rng1 [.int (m : Nat)] = .ok (rangeD 0 (m : Nat)) := by rw [rng1_i, if_pos (rngOk_of (by omega) (by omega))]
  have hrg2 : rng2 [.int 1, .int (m : Nat)] = .ok (rangeD 1 (m : Nat)) := by rw [rng2_i, if_pos ⟨rngOk_of (by omega) (by omega), rngOk_of (by omega) (by omega)⟩]
  have rl : (rangeD 0 (m : Nat)).length ≤ 16000000 := by rw [rangeD_len]; omega
  have hcmp : ∀ η2 η3 : Option D, compL (vName 5) yes (lstD (lstF anil)) (rangeD 0 (m : Nat)) [some (.list (xs.map .int)), some (.int most), η2, η3, none, none, none, none, none, none, none, none, none] = .ok ((List.replicate m ([] : List Int)).map fun r => .list (r.map .int)) := by
    intro η2 η3
    have e : (List.replicate m ([] : List Int)).map (fun r => (.list (r.map .int) : D)) = (List.range m).map fun _ => .list [] := by
      rw [List.map_replicate, List.map_const', List.length_range]; rfl
    have er : rangeD 0 (m : Nat) = (List.range m).map fun p => (.int ((p : Nat) : Int) : D) := by
      unfold rangeD
      rw [show ((m : Nat) - (0 : Int)).toNat = m by omega]
      exact List.map_congr_left fun p _ => by rw [Int.zero_add]
    rw [e, er]
    exact compL_map fun p _ => ⟨_, rfl, rfl, by simp⟩
  obtain ⟨K, e5, e6, e7, e8, hK, qk⟩ := kloop xs (.int most) (.list (ns.map .int)) (.int (m : Nat)) hm1 (by omega)
  obtain ⟨ws, e5', e6', e10, e11, hwl, hok, hsn, qj⟩ := jloop xs (.int most) (.list (ns.map .int)) (.int (m : Nat)) (by omega) hK e5 e6 e7 e8
  refine ⟨ws, ?_, hok, by omega, by omega, ?_, ?_⟩
  · unfold kidsD at qk
    have e0 : ((List.replicate m ([] : List Int)).map fun r => (.list (r.map .int) : D)) = List.replicate m (.list []) := by rw [List.map_replicate]; rfl
    rw [e0] at qk hcmp
    unfold kidsD at qj
    unfold f_law_job
    rw [law_job_def]
    simp -implicitDefEqProofs [hc, hd, q0, q1, hdm, hd2, hmn, hdn, hd4, hw, hmx, hrg, rl, hcmp, hrg2, qk, qj, dTuple, jobD]
  · intro i w hi c hc
    refine hK.up i w.snds ?_ c hc
    rw [← hsn, List.getElem?_map, hi]; rfl
  · unfold sndsOf
    rw [hsn, hwl]
    exact hK.perm
end K63J

namespace K63
open PySem PySem.Spec L2 PyProof.Rows Bv
open SX (S)
def sg1 : List Nat := [48, 49, 50, 51, 52, 53, 54, 55, 56, 57, 32, 58, 45, 10, 100, 111, 115, 101, 110, 119, 97, 105, 116]
def sg2 : List Nat := [32, 33, 34, 35, 36, 38, 39, 40, 41, 42, 43, 44, 45, 46, 47, 48, 49, 50, 51, 52, 53, 54, 55, 56, 57, 58, 59, 60, 61, 62, 63, 64, 65, 66, 67, 68, 69, 70, 71, 72, 73, 74, 75, 76, 77, 78, 79, 80, 81, 82, 83, 84, 85, 86, 87, 88, 89, 90, 91, 92, 93, 94, 95, 96, 97, 98, 99, 100, 101, 102, 103, 104, 105, 106, 107, 108, 109, 110, 111, 112, 113, 114, 115, 116, 117, 118, 119, 120, 121, 122, 123, 124, 125, 126]
theorem S_sg1 : (Str.ofString "0123456789 :-\ndosenwait" : Str) = S sg1 := by kernel_rfl
theorem S_sg2 : (Str.ofString " !\"#$&'()*+,-./0123456789:;<=>?@ABCDEFGHIJKLMNOPQRSTUVWXYZ[\\]^_`abcdefghijklmnopqrstuvwxyz{|}~" : Str) = S sg2 := by kernel_rfl
theorem S_nt : (Str.ofString "\n\t" : Str) = S [10, 9] := by kernel_rfl
def bt0 : Env' → Res := (asg 2 [] (cst (.str "0123456789 :-\ndosenwait")))
def bt1 : Env' → Res := (sif [] (asB (bi2 dEq (bi2 dMod (bi2 dIx (var 1) (cst (.int 0))) (cst (.int 2))) (cst (.int 0)))) (sseq (asg 2 [] (cst (.str " !\"#$&'()*+,-./0123456789:;<=>?@ABCDEFGHIJKLMNOPQRSTUVWXYZ[\\]^_`abcdefghijklmnopqrstuvwxyz{|}~"))) (asg 2 [] (bi2 dAdd (var 2) (cst (.str "\n\t"))))) snext)
def bt2 : Env' → Res := (asg 3 [] (bi2 dIx (var 2) (bi2 dMod (bi2 dIx (var 1) (cst (.int 1))) (cal dLen (acons (var 2) anil)))))
def bt3 : Env' → Res := (asg 4 [] (bi2 dMod (bi2 dIx (var 1) (cst (.int 2))) (bi2 dAdd (cal dLen (acons (var 0) anil)) (cst (.int 1)))))
def bt4 : Env' → Res := (sif [] (asB (bi2 dEq (bi2 dMod (bi2 dIx (var 1) (cst (.int 3))) (cst (.int 3))) (cst (.int 0)))) (Bv.ret [] (bi2 dAdd (bi2 dAdd (slcS (var 0) onone (osome (var 4))) (var 3)) (slcS (var 0) (osome (var 4)) onone))) snext)
def bt5 : Env' → Res := (sif [] (asB (bi2 dEq (bi2 dMod (bi2 dIx (var 1) (cst (.int 3))) (cst (.int 3))) (cst (.int 1)))) (Bv.ret [] (bi2 dAdd (slcS (var 0) onone (osome (var 4))) (slcS (var 0) (osome (bi2 dAdd (var 4) (cst (.int 1)))) onone))) snext)
def bt6 : Env' → Res := (Bv.ret [] (bi2 dAdd (bi2 dAdd (slcS (var 0) onone (osome (var 4))) (var 3)) (slcS (var 0) (osome (bi2 dAdd (var 4) (cst (.int 1)))) onone)))
theorem law_bent_def : m_law_bent = (sseq bt0 (sseq bt1 (sseq bt2 (sseq bt3 (sseq bt4 (sseq bt5 bt6)))))) := rfl
def badL : List (List Nat) := [[], [49], [49, 58], [49, 58, 32, 100, 111], [48, 58, 32, 100, 111], [49, 48, 58, 32, 100, 111], [48, 49, 58, 32, 100, 111], [49, 32, 100, 111], [49, 58, 100, 111], [49, 58, 32, 100, 111, 32], [49, 58, 32, 32, 100, 111], [32, 49, 58, 32, 100, 111], [45, 49, 58, 32, 100, 111], [49, 58, 32, 68, 111], [49, 58, 32, 115, 101, 110, 100], [49, 58, 32, 115, 101, 110, 100, 45], [49, 58, 32, 115, 101, 110, 100, 45, 48], [49, 58, 32, 115, 101, 110, 100, 45, 49, 50], [49, 58, 32, 115, 101, 110, 100, 45, 49, 48, 48], [49, 58, 32, 115, 101, 110, 100, 45, 48, 49], [49, 58, 32, 115, 101, 110, 100, 45, 45, 49], [49, 58, 32, 115, 101, 110, 100, 45, 49, 45, 50], [49, 58, 32, 119, 97, 105, 116, 45, 49], [49, 58, 32, 100, 111, 32, 100, 111, 32, 100, 111, 32, 100, 111, 32, 100, 111, 32, 100, 111, 32, 100, 111, 32, 100, 111], [49, 58, 32, 100, 111, 32, 100, 111, 32, 100, 111, 32, 100, 111, 32, 100, 111, 32, 100, 111, 32, 100, 111, 32, 100, 111, 32, 100, 111], [57, 58, 32, 115, 101, 110, 100, 45, 49, 32, 115, 101, 110, 100, 45, 49], [49, 58, 32, 115, 101, 110, 100, 115, 45, 49]]
def bad1 : Nat := 13
def bad2 : Nat := 21
def br0 : Env' → Res := (asg 2 [] (lstD (splitM (var 0) (cst (.str "\n")))))
def br1 : Env' → Res := (asg 3 [] (bi2 dMod (bi2 dIx (var 1) (cst (.int 0))) (cal dLen (acons (var 2) anil))))
def br2 : Env' → Res := (asg 4 [] (lstD (lstF (acons (cst (.str "")) (acons (cst (.str "1")) (acons (cst (.str "1:")) (acons (cst (.str "1: do")) (acons (cst (.str "0: do")) (acons (cst (.str "10: do")) (acons (cst (.str "01: do")) (acons (cst (.str "1 do")) (acons (cst (.str "1:do")) (acons (cst (.str "1: do ")) (acons (cst (.str "1:  do")) (acons (cst (.str " 1: do")) (acons (cst (.str "-1: do")) anil))))))))))))))))
def br3 : Env' → Res := (asg 4 [] (lstD (biF dAddF (var 4) (lstD (lstF (acons (cst (.str "1: Do")) (acons (cst (.str "1: send")) (acons (cst (.str "1: send-")) (acons (cst (.str "1: send-0")) (acons (cst (.str "1: send-12")) (acons (cst (.str "1: send-100")) (acons (cst (.str "1: send-01")) (acons (cst (.str "1: send--1")) anil)))))))))))))
def br4 : Env' → Res := (asg 4 [] (lstD (biF dAddF (var 4) (lstD (lstF (acons (cst (.str "1: send-1-2")) (acons (cst (.str "1: wait-1")) (acons (bi2 dAdd (cst (.str "1: do")) (bi2 dMulS (cst (.str " do")) (cst (.int 7)))) (acons (bi2 dAdd (cst (.str "1: do")) (bi2 dMulS (cst (.str " do")) (cst (.int 8)))) (acons (cst (.str "9: send-1 send-1")) (acons (cst (.str "1: sends-1")) anil)))))))))))
def br5 : Env' → Res := (sif [] (asB (bi2 dEq (bi2 dMod (bi2 dIx (var 1) (cst (.int 1))) (cst (.int 4))) (cst (.int 0)))) (asg 2 [] (bi2 dAdd (lstD (biF dAddF (slc (var 2) onone (osome (var 3))) (lstD (lstF (acons (bi2 dIx (var 4) (bi2 dMod (bi2 dIx (var 1) (cst (.int 2))) (cst (.int 27)))) anil))))) (slc (var 2) (osome (var 3)) onone))) (sif [] (asB (bi2 dEq (bi2 dMod (bi2 dIx (var 1) (cst (.int 1))) (cst (.int 4))) (cst (.int 1)))) (asg 2 [] (bi2 dAdd (lstD (biF dAddF (slc (var 2) onone (osome (var 3))) (lstD (lstF (acons (bi2 dIx (var 4) (bi2 dMod (bi2 dIx (var 1) (cst (.int 2))) (cst (.int 27)))) anil))))) (slc (var 2) (osome (bi2 dAdd (var 3) (cst (.int 1)))) onone))) (sif [] (asB (bi2 dEq (bi2 dMod (bi2 dIx (var 1) (cst (.int 1))) (cst (.int 4))) (cst (.int 2)))) (asg 2 [] (bi2 dAdd (slc (var 2) onone (osome (bi2 dAdd (var 3) (cst (.int 1))))) (slc (var 2) (osome (var 3)) onone))) (asg 2 [] (bi2 dAdd (slc (var 2) onone (osome (var 3))) (slc (var 2) (osome (bi2 dAdd (var 3) (cst (.int 1)))) onone))))))
def br6 : Env' → Res := (Bv.ret [] (joinM (cst (.str "\n")) (var 2)))
theorem law_bent_rows_def : m_law_bent_rows = (sseq br0 (sseq br1 (sseq br2 (sseq br3 (sseq br4 (sseq br5 br6)))))) := rfl
theorem sign_at {a : List Nat} {i : Int} (h0 : 0 ≤ i) (h1 : i < a.length) (hl : a.length ≤ 16000000) : ∃ c ∈ a, dIx (.str (S a)) (.int i) = .ok (.str (S [c])) := by
  have hlt : i.toNat < a.length := by omega
  refine ⟨a[i.toNat], List.getElem_mem hlt, ?_⟩
  rw [dIx_s, SX.S_len, if_pos hl]
  have : atI (S a).cps.toList i = some a[i.toNat] := by
    show atI a i = _
    unfold atI ixN
    rw [if_pos h0, if_pos (by omega)]
    simp only [Option.bind_some]
    rw [List.getElem?_eq_getElem hlt]
  rw [this]
theorem dAdd_S {a b : List Nat} (h : a.length + b.length ≤ 16000000) : dAdd (.str (S a)) (.str (S b)) = .ok (.str (S (a ++ b))) := by
  rw [dAdd_ss, SX.S_len, SX.S_len, if_pos h, SX.S_cat]
theorem asc_app {a b : List Nat} (ha : Asc a) (hb : Asc b) : Asc (a ++ b) := fun c hc => (List.mem_append.mp hc).elim (ha c) (hb c)
theorem asc_take {a : List Nat} (ha : Asc a) (n : Nat) : Asc (a.take n) := fun c hc => ha c (List.mem_of_mem_take hc)
theorem asc_drop {a : List Nat} (ha : Asc a) (n : Nat) : Asc (a.drop n) := fun c hc => ha c (List.mem_of_mem_drop hc)
theorem sg_asc : Asc sg1 ∧ Asc (sg2 ++ [10, 9]) := by unfold Asc sg1 sg2; decide
theorem law_bent_at {L : List Nat} (hl : L.length ≤ 100000) (h8 : Asc L) {ns : List Int} (hn : K63J.Ns ns) (h4 : 4 ≤ ns.length) : ∃ L', f_law_bent [.str (S L), .list (ns.map .int)] = .ok (.str (S L')) ∧ L'.length ≤ L.length + 1 ∧ Asc L' := by
  obtain ⟨v0, q0, b0, _⟩ := K63J.ns_get hn (i := 0) (by decide) (by omega)
  obtain ⟨v1, q1, b1, _⟩ := K63J.ns_get hn (i := 1) (by decide) (by omega)
  obtain ⟨v2, q2, b2, _⟩ := K63J.ns_get hn (i := 2) (by decide) (by omega)
  obtain ⟨v3, q3, b3, _⟩ := K63J.ns_get hn (i := 3) (by decide) (by omega)
  have m2 : dMod (.int v0) (.int 2) = .ok (.int (v0 % 2)) := dMod_ok (by decide)
  generalize v0 % 2 = w0 at m2
  -- the signs
  obtain ⟨sg, hsl, hsa, hs⟩ : ∃ sg : List Nat, (1 ≤ sg.length ∧ sg.length ≤ 1000) ∧ Asc sg ∧ sseq bt0 bt1 [.fz (.str (S L)), .fz (.list (ns.map .int)), .un, .un, .un] = .nx [.fz (.str (S L)), .fz (.list (ns.map .int)), .fz (.str (S sg)), .un, .un] := by
    by_cases h : w0 = 0
    · refine ⟨sg2 ++ [10, 9], by decide, sg_asc.2, ?_⟩
      have ha : dAdd (.str (S sg2)) (.str (S [10, 9])) = .ok (.str (S (sg2 ++ [10, 9]))) := dAdd_S (by decide)
      simp -implicitDefEqProofs only [dAdd_ss] at ha
      simp -implicitDefEqProofs [bt0, bt1, q0, m2, h, S_sg1, S_sg2, S_nt, ha]
    · refine ⟨sg1, by decide, sg_asc.1, ?_⟩
      simp -implicitDefEqProofs [bt0, bt1, q0, m2, h, S_sg1]
  have hsn := dLen_S sg (by omega)
  have ms : dMod (.int v1) (.int sg.length) = .ok (.int (v1 % sg.length)) := dMod_ok (by omega)
  obtain ⟨c, hc, hci⟩ := sign_at (a := sg) (Int.emod_nonneg v1 (show (sg.length : Int) ≠ 0 by omega)) (Int.emod_lt_of_pos v1 (show (0 : Int) < sg.length by omega)) (by omega)
  generalize v1 % sg.length = w1 at ms hci
  have hc8 := hsa c hc
  have hc1 : Asc [c] := fun x hx => by rw [List.mem_singleton.mp hx]; exact hc8
  have hLn := dLen_S L (by omega)
  have ma : dMod (.int v2) (.int ((L.length : Nat) + 1)) = .ok (.int (v2 % ((L.length : Nat) + 1))) := dMod_ok (by omega)
  have a0 := Int.emod_nonneg v2 (show ((L.length : Nat) : Int) + 1 ≠ 0 by omega)
  have a1 := Int.emod_lt_of_pos v2 (show (0 : Int) < (L.length : Nat) + 1 by omega)
  generalize v2 % ((L.length : Nat) + 1) = at_ at ma a0 a1
  have m3 : dMod (.int v3) (.int 3) = .ok (.int (v3 % 3)) := dMod_ok (by decide)
  generalize v3 % 3 = w3 at m3
  have c1 := dSlS_S L none (some at_) (by omega)
  have c2 := dSlS_S L (some at_) none (by omega)
  have c3 := dSlS_S L (some (at_ + 1)) none (by omega)
  rw [cutS_to _ a0] at c1
  rw [cutS_from _ a0] at c2
  rw [cutS_from _ (by omega)] at c3
  have p1 : (L.take at_.toNat ++ [c]).length ≤ 100001 := by simp; omega
  have hA := asc_take h8 at_.toNat
  have hB := asc_drop h8 at_.toNat
  have hC := asc_drop h8 (at_ + 1).toNat
  have lA : (L.take at_.toNat).length = at_.toNat := by rw [List.length_take]; omega
  have lB : (L.drop at_.toNat).length = L.length - at_.toNat := List.length_drop
  have lC : (L.drop (at_ + 1).toNat).length = L.length - (at_ + 1).toNat := List.length_drop
  have l1 : [c].length = 1 := rfl
  generalize L.take at_.toNat = A at c1 hA lA
  generalize L.drop at_.toNat = B at c2 hB lB
  generalize L.drop (at_ + 1).toNat = C at c3 hC lC
  have ht := dAdd_S (a := A) (b := [c]) (by omega)
  have hb := dAdd_S (a := A ++ [c]) (b := B) (by rw [List.length_append]; omega)
  have hd := dAdd_S (a := A ++ [c]) (b := C) (by rw [List.length_append]; omega)
  have he := dAdd_S (a := A) (b := C) (by omega)
  unfold f_law_bent
  rw [law_bent_def]
  have hs2 : (bt0 [.fz (.str (S L)), .fz (.list (ns.map .int)), .un, .un, .un]).sq bt1 = .nx [.fz (.str (S L)), .fz (.list (ns.map .int)), .fz (.str (S sg)), .un, .un] := hs
  have hs3 : ∀ g, (sseq bt0 (sseq bt1 g)) [.fz (.str (S L)), .fz (.list (ns.map .int)), .un, .un, .un] = g [.fz (.str (S L)), .fz (.list (ns.map .int)), .fz (.str (S sg)), .un, .un] := by
    intro g
    rw [sseq_def]
    cases e : bt0 [.fz (.str (S L)), .fz (.list (ns.map .int)), .un, .un, .un] <;> rw [e] at hs2 <;> first | (rw [sq_nx] at hs2 ⊢; rw [sseq_def, hs2, sq_nx]) | cases hs2
  by_cases h0 : w3 = 0
  · refine ⟨A ++ [c] ++ B, ?_, by simp only [List.length_append, l1]; omega, asc_app (asc_app hA hc1) hB⟩
    show (sseq bt0 (sseq bt1 _) [.fz (.str (S L)), .fz (.list (ns.map .int)), .un, .un, .un]).fin = _
    rw [hs3]
    generalize (A ++ [c] ++ B) = R at hb ⊢
    generalize (A ++ [c]) = R1 at ht hb
    simp -implicitDefEqProofs [-dAdd_ss, bt2, bt3, bt4, q1, hsn, ms, hci, q2, hLn, ma, q3, m3, h0, slcS, c1, c2, ht, hb]
  · by_cases h1 : w3 = 1
    · refine ⟨A ++ C, ?_, by simp only [List.length_append]; omega, asc_app hA hC⟩
      show (sseq bt0 (sseq bt1 _) [.fz (.str (S L)), .fz (.list (ns.map .int)), .un, .un, .un]).fin = _
      rw [hs3]
      generalize (A ++ C) = R at he ⊢
      simp -implicitDefEqProofs [-dAdd_ss, bt2, bt3, bt4, bt5, q1, hsn, ms, hci, q2, hLn, ma, q3, m3, h0, h1, slcS, c1, c3, he]
    · refine ⟨A ++ [c] ++ C, ?_, by simp only [List.length_append, l1]; omega, asc_app (asc_app hA hc1) hC⟩
      show (sseq bt0 (sseq bt1 _) [.fz (.str (S L)), .fz (.list (ns.map .int)), .un, .un, .un]).fin = _
      rw [hs3]
      generalize (A ++ [c] ++ C) = R at hd ⊢
      generalize (A ++ [c]) = R1 at ht hd
      simp -implicitDefEqProofs [-dAdd_ss, bt2, bt3, bt4, bt5, bt6, q1, hsn, ms, hci, q2, hLn, ma, q3, m3, h0, h1, slcS, c1, c3, ht, hd]
/-! rows -/
theorem joinL_le (s : Nat) : ∀ l : List (List Nat), (TL.joinL [s] l).length ≤ (l.map (·.length)).sum + l.length
  | [] => by simp [TL.joinL]
  | [p] => by simp [TL.joinL]
  | p :: q :: l => by
    have := joinL_le s (q :: l)
    rw [joinL_2]
    simp only [List.length_append, List.length_cons, List.length_nil, List.map_cons, List.sum_cons] at this ⊢
    omega
theorem joinL_mem {s : Nat} : ∀ {l : List (List Nat)} {c : Nat}, c ∈ TL.joinL [s] l → c = s ∨ ∃ p ∈ l, c ∈ p
  | [], c, h => by cases h
  | [p], c, h => .inr ⟨p, List.mem_cons_self, h⟩
  | p :: q :: l, c, h => by
    rw [joinL_2] at h
    rcases List.mem_append.mp h with h | h
    · exact .inr ⟨p, List.mem_cons_self, h⟩
    · rcases List.mem_append.mp h with h | h
      · exact .inl (List.mem_singleton.mp h)
      · rcases joinL_mem h with h | ⟨x, hx, hc⟩
        · exact .inl h
        · exact .inr ⟨x, List.mem_cons_of_mem _ hx, hc⟩
def sL (l : List (List Nat)) : List D := l.map fun x => .str (S x)
theorem sL_len (l : List (List Nat)) : (sL l).length = l.length := List.length_map _
theorem sL_app (a b : List (List Nat)) : sL a ++ sL b = sL (a ++ b) := (List.map_append).symm
theorem sL_take (a : List (List Nat)) (n : Nat) : (sL a).take n = sL (a.take n) := List.map_take.symm
theorem sL_drop (a : List (List Nat)) (n : Nat) : (sL a).drop n = sL (a.drop n) := List.map_drop.symm
theorem dJoin_sL {l : List (List Nat)} (h : (l.map (·.length)).sum + l.length ≤ 16000000) : dJoin (.str (S [10])) (.list (sL l)) = .ok (.str (S (TL.joinL [10] l))) :=
  K63J.dJoin_S (a := [10]) (l := l) (by simp only [List.length_cons, List.length_nil, Nat.zero_add, Nat.mul_one]; exact h)
theorem bad_at (T N LN A : D) : br2 [.fz T, .fz N, .fz LN, .fz A, .un] = .nx [.fz T, .fz N, .fz LN, .fz A, .fz (.list (sL (badL.take bad1)))] ∧
    br3 [.fz T, .fz N, .fz LN, .fz A, .fz (.list (sL (badL.take bad1)))] = .nx [.fz T, .fz N, .fz LN, .fz A, .fz (.list (sL (badL.take bad2)))] ∧
    br4 [.fz T, .fz N, .fz LN, .fz A, .fz (.list (sL (badL.take bad2)))] = .nx [.fz T, .fz N, .fz LN, .fz A, .fz (.list (sL badL))] := ⟨by kernel_rfl, by kernel_rfl, by kernel_rfl⟩
theorem bad_ok : badL.length = 27 ∧ ∀ b ∈ badL, b.length ≤ 40 ∧ Asc b := by unfold Asc; decide
theorem sum_app (a b : List (List Nat)) : ((a ++ b).map (·.length)).sum = (a.map (·.length)).sum + (b.map (·.length)).sum := by rw [List.map_append, List.sum_append]
theorem sum_cut (a : List (List Nat)) (n : Nat) : ((a.take n).map (·.length)).sum + ((a.drop n).map (·.length)).sum = (a.map (·.length)).sum := by rw [← sum_app, List.take_append_drop]
theorem law_bent_rows_at {L : List Nat} (hl : L.length ≤ 20000) (h8 : Asc L) {ns : List Int} (hn : K63J.Ns ns) (h3 : 3 ≤ ns.length) : ∃ L', f_law_bent_rows [.str (S L), .list (ns.map .int)] = .ok (.str (S L')) ∧ L'.length ≤ 3 * L.length + 50 ∧ Asc L' := by
  obtain ⟨v0, q0, b0, _⟩ := K63J.ns_get hn (i := 0) (by decide) (by omega)
  obtain ⟨v1, q1, b1, _⟩ := K63J.ns_get hn (i := 1) (by decide) (by omega)
  obtain ⟨v2, q2, b2, _⟩ := K63J.ns_get hn (i := 2) (by decide) (by omega)
  have hsp := dSplit_S (s := 10) (by decide) L (by omega)
  have hcnt := sp1_len 10 L
  have hmem : ∀ l ∈ sp1 10 L, Asc l := fun l hl c hc => h8 c ((sp1_mem hl).1 c hc).1
  have hne := sp1_ne 10 L
  obtain ⟨ls, hls⟩ : ∃ ls, ls = sp1 10 L := ⟨_, rfl⟩
  rw [← hls] at hcnt hmem hne
  have hsp : dSplit (.str (S L)) (.str (S [10])) = .ok (sL ls) := by rw [hsp, hls]; rfl
  have hpos : 1 ≤ ls.length := List.length_pos_iff.mpr hne
  have hlen := sL_len ls
  have ma : dMod (.int v0) (.int ls.length) = .ok (.int (v0 % ls.length)) := dMod_ok (by omega)
  have a0 := Int.emod_nonneg v0 (show (ls.length : Int) ≠ 0 by omega)
  have a1 := Int.emod_lt_of_pos v0 (show (0 : Int) < ls.length by omega)
  generalize v0 % ls.length = at_ at ma a0 a1
  have m4 : dMod (.int v1) (.int 4) = .ok (.int (v1 % 4)) := dMod_ok (by decide)
  generalize v1 % 4 = w1 at m4
  have m27 : dMod (.int v2) (.int 27) = .ok (.int (v2 % 27)) := dMod_ok (by decide)
  obtain ⟨d, hd, bd, hbd, rfl⟩ := pick (xs := sL badL) (i := v2 % 27) (fun d => ∃ b ∈ badL, d = .str (S b)) (Int.emod_nonneg v2 (by decide)) (by rw [sL_len, bad_ok.1]; exact Int.emod_lt_of_pos v2 (by decide)) fun d hd => by obtain ⟨b, hb, rfl⟩ := List.mem_map.mp hd; exact ⟨b, hb, rfl⟩
  generalize v2 % 27 = w2 at m27 hd
  obtain ⟨hb40, hb8⟩ := bad_ok.2 bd hbd
  obtain ⟨e2, e3, e4⟩ := bad_at (.str (S L)) (.list (ns.map .int)) (.list (sL ls)) (.int at_)
  have k1 : cutD (sL ls) none (some at_) = sL (ls.take at_.toNat) := by rw [cut_to _ a0, sL_take]
  have k2 : cutD (sL ls) (some at_) none = sL (ls.drop at_.toNat) := by rw [cut_from _ a0, sL_drop]
  have k3 : cutD (sL ls) (some (at_ + 1)) none = sL (ls.drop (at_ + 1).toNat) := by rw [cut_from _ (by omega), sL_drop]
  have k4 : cutD (sL ls) none (some (at_ + 1)) = sL (ls.take (at_ + 1).toNat) := by rw [cut_to _ (by omega), sL_take]
  have s1 := sum_cut ls at_.toNat
  have s2 := sum_cut ls (at_ + 1).toNat
  have n1 : (ls.take at_.toNat).length = at_.toNat := by rw [List.length_take]; omega
  have n2 : (ls.drop at_.toNat).length = ls.length - at_.toNat := List.length_drop
  have n3 : (ls.drop (at_ + 1).toNat).length = ls.length - (at_ + 1).toNat := List.length_drop
  have n4 : (ls.take (at_ + 1).toNat).length = (at_ + 1).toNat := by rw [List.length_take]; omega
  have i1 : ∀ l ∈ ls.take at_.toNat, Asc l := fun l hl => hmem l (List.mem_of_mem_take hl)
  have i2 : ∀ l ∈ ls.drop at_.toNat, Asc l := fun l hl => hmem l (List.mem_of_mem_drop hl)
  have i3 : ∀ l ∈ ls.drop (at_ + 1).toNat, Asc l := fun l hl => hmem l (List.mem_of_mem_drop hl)
  have i4 : ∀ l ∈ ls.take (at_ + 1).toNat, Asc l := fun l hl => hmem l (List.mem_of_mem_take hl)
  -- what comes of the lines
  have main : ∃ LS : List (List Nat), (LS.map (·.length)).sum + LS.length ≤ 3 * L.length + 50 ∧ (∀ l ∈ LS, Asc l) ∧ br5 [.fz (.str (S L)), .fz (.list (ns.map .int)), .fz (.list (sL ls)), .fz (.int at_), .fz (.list (sL badL))] = .nx [.fz (.str (S L)), .fz (.list (ns.map .int)), .fz (.list (sL LS)), .fz (.int at_), .fz (.list (sL badL))] := by
    have hbs : (PyData.list [PyData.str (S bd)]) = .list (sL [bd]) := rfl
    by_cases h0 : w1 = 0
    · refine ⟨ls.take at_.toNat ++ [bd] ++ ls.drop at_.toNat, ?_, ?_, ?_⟩
      · simp only [sum_app, List.length_append, n1, n2, List.length_cons, List.length_nil, List.map_cons, List.map_nil, List.sum_cons, List.sum_nil]; omega
      · intro l hl
        rcases List.mem_append.mp hl with hl | hl
        · rcases List.mem_append.mp hl with hl | hl
          · exact i1 l hl
          · rw [List.mem_singleton.mp hl]; exact hb8
        · exact i2 l hl
      · have t1 : dAddF (.list (sL (ls.take at_.toNat))) (.list [.str (S bd)]) = .ok (sL (ls.take at_.toNat ++ [bd])) := by
          rw [hbs, dAddF_l, sL_len, sL_len, if_pos (by rw [n1]; simp; omega), sL_app]
        have t2 : dAdd (.list (sL (ls.take at_.toNat ++ [bd]))) (.list (sL (ls.drop at_.toNat))) = .ok (.list (sL (ls.take at_.toNat ++ [bd] ++ ls.drop at_.toNat))) := by
          rw [dAdd_ll, sL_len, sL_len, if_pos (by rw [List.length_append, n1, n2]; simp; omega), sL_app]
        generalize ls.take at_.toNat ++ [bd] ++ ls.drop at_.toNat = R at t2 ⊢
        generalize ls.take at_.toNat ++ [bd] = R1 at t1 t2
        simp -implicitDefEqProofs [-dAdd_ll, br5, q1, m4, h0, k1, k2, q2, m27, hd, t1, t2, biF]
    · by_cases h1 : w1 = 1
      · refine ⟨ls.take at_.toNat ++ [bd] ++ ls.drop (at_ + 1).toNat, ?_, ?_, ?_⟩
        · simp only [sum_app, List.length_append, n1, n3, List.length_cons, List.length_nil, List.map_cons, List.map_nil, List.sum_cons, List.sum_nil]; omega
        · intro l hl
          rcases List.mem_append.mp hl with hl | hl
          · rcases List.mem_append.mp hl with hl | hl
            · exact i1 l hl
            · rw [List.mem_singleton.mp hl]; exact hb8
          · exact i3 l hl
        · have t1 : dAddF (.list (sL (ls.take at_.toNat))) (.list [.str (S bd)]) = .ok (sL (ls.take at_.toNat ++ [bd])) := by
            rw [hbs, dAddF_l, sL_len, sL_len, if_pos (by rw [n1]; simp; omega), sL_app]
          have t2 : dAdd (.list (sL (ls.take at_.toNat ++ [bd]))) (.list (sL (ls.drop (at_ + 1).toNat))) = .ok (.list (sL (ls.take at_.toNat ++ [bd] ++ ls.drop (at_ + 1).toNat))) := by
            rw [dAdd_ll, sL_len, sL_len, if_pos (by rw [List.length_append, n1, n3]; simp; omega), sL_app]
          generalize ls.take at_.toNat ++ [bd] ++ ls.drop (at_ + 1).toNat = R at t2 ⊢
          generalize ls.take at_.toNat ++ [bd] = R1 at t1 t2
          simp -implicitDefEqProofs [-dAdd_ll, br5, q1, m4, h0, h1, k1, k3, q2, m27, hd, t1, t2, biF]
      · by_cases h2 : w1 = 2
        · refine ⟨ls.take (at_ + 1).toNat ++ ls.drop at_.toNat, ?_, ?_, ?_⟩
          · simp only [sum_app, List.length_append, n4, n2]; omega
          · intro l hl
            rcases List.mem_append.mp hl with hl | hl
            · exact i4 l hl
            · exact i2 l hl
          · have t2 : dAdd (.list (sL (ls.take (at_ + 1).toNat))) (.list (sL (ls.drop at_.toNat))) = .ok (.list (sL (ls.take (at_ + 1).toNat ++ ls.drop at_.toNat))) := by
              rw [dAdd_ll, sL_len, sL_len, if_pos (by rw [n4, n2]; omega), sL_app]
            generalize ls.take (at_ + 1).toNat ++ ls.drop at_.toNat = R at t2 ⊢
            simp -implicitDefEqProofs [-dAdd_ll, br5, q1, m4, h0, h1, h2, k4, k2, t2]
        · refine ⟨ls.take at_.toNat ++ ls.drop (at_ + 1).toNat, ?_, ?_, ?_⟩
          · simp only [sum_app, List.length_append, n1, n3]; omega
          · intro l hl
            rcases List.mem_append.mp hl with hl | hl
            · exact i1 l hl
            · exact i3 l hl
          · have t2 : dAdd (.list (sL (ls.take at_.toNat))) (.list (sL (ls.drop (at_ + 1).toNat))) = .ok (.list (sL (ls.take at_.toNat ++ ls.drop (at_ + 1).toNat))) := by
              rw [dAdd_ll, sL_len, sL_len, if_pos (by rw [n1, n3]; omega), sL_app]
            generalize ls.take at_.toNat ++ ls.drop (at_ + 1).toNat = R at t2 ⊢
            simp -implicitDefEqProofs [-dAdd_ll, br5, q1, m4, h0, h1, h2, k1, k3, t2]
  obtain ⟨LS, hsum, hasc, e5⟩ := main
  have hj := joinL_le 10 LS
  refine ⟨TL.joinL [10] LS, ?_, by omega, fun c hc => ?_⟩
  · have e6 := dJoin_sL (l := LS) (by omega)
    have l1 : dLen [.list (sL ls)] = .ok (.int ls.length) := by rw [dLen_l, sL_len]
    unfold f_law_bent_rows
    rw [law_bent_rows_def]
    generalize TL.joinL [10] LS = R at e6 ⊢
    generalize sL LS = LSD at e5 e6
    generalize sL badL = BD at *
    generalize sL (badL.take bad1) = BD1 at *
    generalize sL (badL.take bad2) = BD2 at *
    generalize sL ls = LD at *
    have e0 : br0 [.fz (.str (S L)), .fz (.list (ns.map .int)), .un, .un, .un] = .nx [.fz (.str (S L)), .fz (.list (ns.map .int)), .fz (.list LD), .un, .un] := by
      simp -implicitDefEqProofs [br0, splitM, isStr, S_nl, hsp]
    have e1 : br1 [.fz (.str (S L)), .fz (.list (ns.map .int)), .fz (.list LD), .un, .un] = .nx [.fz (.str (S L)), .fz (.list (ns.map .int)), .fz (.list LD), .fz (.int at_), .un] := by
      simp -implicitDefEqProofs only [br1, asg_def, bi2_def, cal_def, acons_def, anil_def, var_def, cst_def, vw_cons, vwF_cons, vwF_nil, vw1_fz, vw1_un, List.getElem?_cons_zero, List.getElem?_cons_succ, oget_some, Rv.bind_ok, dIx_lD, q0, l1, ma, Rv.st_ok, imm_int, if_true, List.set_cons_zero, List.set_cons_succ]
    have e6' : br6 [.fz (.str (S L)), .fz (.list (ns.map .int)), .fz (.list LSD), .fz (.int at_), .fz (.list BD)] = .rt (.str (S R)) := by
      simp -implicitDefEqProofs [br6, joinM, isStr, S_nl, e6]
    show (sseq br0 _ [.fz (.str (S L)), .fz (.list (ns.map .int)), .un, .un, .un]).fin = _
    simp -implicitDefEqProofs only [sseq_def, e0, e1, e2, e3, e4, e5, e6', sq_nx, fin_rt]
  · rcases joinL_mem hc with rfl | ⟨p, hp, hc⟩
    · decide
    · exact hasc p hp c hc
end K63


namespace K63
open PySem PySem.Spec L2 PyProof.Rows Bv
open SX (S)
def lw0 : Env' → Res := (asg 1 [] (lstD (calF dList (acons (slc (var 0) onone (osome (cst (.int 10)))) anil))))
def lw1 : Env' → Res := (sif [] (asB (bi2 dEq (var 1) (lstD (lstF anil)))) (asg 1 [] (lstD (lstF (acons (cst (.int 8)) anil)))) snext)
def lwI : Env' → Res := (sif [] (tor (tnot (asB (cal f_law_right (acons (var 7) anil)))) (tnot (asB (cal f_law_right (acons (slcS (var 7) onone (osome (una dNeg (cst (.int 1))))) anil))))) (Bv.ret [] (cst (.bool false))) snext)
def lwb0 : Env' → Res := (asg 4 [] (cal f_law_text (acons (cal f_law_job (acons (slc (var 0) (osome (bi2 dDiv (var 2) (cst (.int 2)))) onone) (acons (cst (.int 12)) anil))) anil)))
def lwb1 : Env' → Res := (asg 5 [] (slc (cal f_law_digits (acons (var 3) (acons (cst (.int 74)) anil))) (osome (cst (.int 60))) onone))
def lwb2 : Env' → Res := (asg 6 [] (cal f_law_bent_rows (acons (cal f_law_bent_rows (acons (var 4) (acons (slc (var 5) (osome (cst (.int 7))) onone) anil))) (acons (slc (var 5) (osome (cst (.int 10))) onone) anil))))
def lwL : Vw → Rv D := (lstD (lstF (acons (cal f_law_bent (acons (var 4) (acons (var 5) anil))) (acons (cal f_law_bent_rows (acons (var 4) (acons (slc (var 5) (osome (cst (.int 4))) onone) anil))) (acons (var 6) (acons (cal f_law_bent (acons (var 6) (acons (var 5) anil))) (acons (var 4) anil)))))))
def lwbL : Env' → Res := (sfor [] (bName 7) lwL lwI)
def lwB : Env' → Res := (sseq lwb0 (sseq lwb1 (sseq lwb2 lwbL)))
def lw2 : Env' → Res := (sforE [] [2, 3] (acons (var 1) anil) lwB)
def lw3 : Env' → Res := (asg 8 [] (lstD (lstF (acons (cst (.str "")) (acons (cst (.str "\n")) (acons (cst (.str "1: do")) (acons (cst (.str "1: do\n")) (acons (cst (.str "1: send-1\n")) (acons (cst (.str "1: send-1\n1: do\n")) (acons (bi2 dMulS (cst (.str "1: do\n")) (cst (.int 13))) (acons (cst (.str "1:\n")) (acons (cst (.str "1: wait\n")) anil))))))))))))
def lw4 : Env' → Res := (asg 8 [] (lstD (biF dAddF (var 8) (lstD (lstF (acons (bi2 dAdd (bi2 dAdd (cst (.str "1: send-")) (bi2 dMulS (cst (.str "1")) (cst (.int 5000)))) (cst (.str "\n"))) (acons (bi2 dAdd (bi2 dMulS (cst (.str "9")) (cst (.int 5000))) (cst (.str ": do\n"))) (acons (bi2 dAdd (cst (.str "1: do\n")) (bi2 dMulS (cst (.str "7")) (cst (.int 5000)))) anil))))))))
def lw5 : Env' → Res := (asg 9 [] (bi2 dAdd (cst (.int 14)) (bi2 dMod (cal dAbs (acons (cal f_law_at (acons (var 0) (acons (cst (.int 0)) anil))) anil)) (cst (.int 40)))))
def lw6 : Env' → Res := (asg 8 [] (lstD (biF dAddF (var 8) (lstD (lstF (acons (bi2 dAdd (bi2 dMulS (cst (.str "1: do\n")) (var 9)) (cst (.str "x\n"))) (acons (bi2 dAdd (bi2 dMulS (cst (.str "1: do\n")) (var 9)) (cst (.str "1: do"))) (acons (bi2 dAdd (bi2 dAdd (bi2 dMulS (cst (.str "1: do\n")) (var 9)) (cst (.str "0: do\n"))) (cst (.str "x\n"))) anil))))))))
def lwJ : Env' → Res := (sif [] (tnot (asB (cal f_law_right (acons (var 4) anil)))) (Bv.ret [] (cst (.bool false))) snext)
def lw7 : Env' → Res := (sfor [] (bName 4) (var 8) lwJ)
def lw8 : Env' → Res := (Bv.ret [] (bi2 dEq (xfl "NoText" "line" (mkx "NoText" "line" (cst (.int 7)))) (cst (.int 7))))
theorem law_def : m_law = (sseq lw0 (sseq lw1 (sseq lw2 (sseq lw3 (sseq lw4 (sseq lw5 (sseq lw6 (sseq lw7 lw8)))))))) := rfl
theorem foldl_app : ∀ (l : List (Array Nat)) (acc : Array Nat), (l.foldl (· ++ ·) acc).toList = acc.toList ++ (l.map Array.toList).flatten
  | [], acc => by simp
  | a :: l, acc => by
    rw [List.foldl_cons, foldl_app l (acc ++ a)]
    simp
theorem mul_S {a : List Nat} (ha : Asc a) {n : Int} (h0 : 1 ≤ n) (h1 : n ≤ 100000) (hl : a.length * n.toNat ≤ 90000) : ∃ L, dMulS (.str (S a)) (.int n) = .ok (.str (S L)) ∧ L.length ≤ 90000 ∧ Asc L := by
  refine ⟨(List.replicate n.toNat a).flatten, ?_, ?_, ?_⟩
  · rw [dMulS_s, if_pos ⟨by omega, h1, by rw [SX.S_len]; omega⟩]
    have : Txt.mul (S a) n = S (List.replicate n.toNat a).flatten := by
      unfold Txt.mul
      rw [if_neg (by omega)]
      split
      · rename_i h
        simp only [Bool.or_eq_true, beq_iff_eq] at h
        rcases h with h | h
        · subst h
          simp
        · rw [SX.S_len] at h
          rw [List.eq_nil_of_length_eq_zero h]
          simp
      · refine TL.ext_tl ?_
        show (List.foldl (· ++ ·) #[] (List.replicate n.toNat (S a).cps)).toList = _
        rw [foldl_app]
        simp [S]
    rw [this]
  · have : (List.replicate n.toNat a).flatten.length = n.toNat * a.length := by simp
    rw [this, Nat.mul_comm]
    exact hl
  · intro c hc
    obtain ⟨l, hl, hc⟩ := List.mem_flatten.mp hc
    rw [(List.mem_replicate.mp hl).2] at hc
    exact ha c hc
def Tx (L : List Nat) : Prop := L.length ≤ 99999 ∧ Asc L
theorem Tx.right {L : List Nat} (h : Tx L) : f_law_right [.str (S L)] = .ok (.bool true) := law_right_at (by have := h.1; omega) h.2
theorem lwI_at (e0 e1 e2 e3 e4 e5 e6 e8 e9 : Sl) {L : List Nat} (h : Tx L) : lwI [e0, e1, e2, e3, e4, e5, e6, .fz (.str (S L)), e8, e9] = .nx [e0, e1, e2, e3, e4, e5, e6, .fz (.str (S L)), e8, e9] := by
  have h1 := h.right
  have h2 : Tx (L.take (L.length - 1)) := ⟨by have := h.1; rw [List.length_take]; omega, asc_take h.2 _⟩
  have h2 := h2.right
  have c1 := dSlS_S L none (some (-1)) (by have := h.1; omega)
  rw [cutS_but] at c1
  simp -implicitDefEqProofs [lwI, h1, slcS, c1, h2]
theorem lwJ_at (e0 e1 e2 e3 e5 e6 e7 e8 e9 : Sl) {L : List Nat} (h : Tx L) : lwJ [e0, e1, e2, e3, .fz (.str (S L)), e5, e6, e7, e8, e9] = .nx [e0, e1, e2, e3, .fz (.str (S L)), e5, e6, e7, e8, e9] := by
  have h1 := h.right
  simp -implicitDefEqProofs [lwJ, h1]
theorem floop (e0 e1 e2 e3 e4 e5 e6 e8 e9 : Sl) : ∀ (ls : List (List Nat)) (e7 : Sl), (∀ l ∈ ls, Tx l) → ∃ e7', forL (bName 7) lwI (sL ls) [e0, e1, e2, e3, e4, e5, e6, e7, e8, e9] = .nx [e0, e1, e2, e3, e4, e5, e6, e7', e8, e9]
  | [], e7, _ => ⟨e7, rfl⟩
  | l :: ls, e7, h => by
    obtain ⟨e7', q⟩ := floop e0 e1 e2 e3 e4 e5 e6 e8 e9 ls (.fz (.str (S l))) fun x hx => h x (List.mem_cons_of_mem _ hx)
    refine ⟨e7', ?_⟩
    show forL (bName 7) lwI (.str (S l) :: sL ls) _ = _
    unfold forL
    simp only [bName_def, List.set_cons_zero, List.set_cons_succ, lwI_at e0 e1 e2 e3 e4 e5 e6 e8 e9 (h l List.mem_cons_self), q]
theorem gloop (e0 e1 e2 e3 e5 e6 e7 e8 e9 : Sl) : ∀ (ls : List (List Nat)) (e4 : Sl), (∀ l ∈ ls, Tx l) → ∃ e4', forL (bName 4) lwJ (sL ls) [e0, e1, e2, e3, e4, e5, e6, e7, e8, e9] = .nx [e0, e1, e2, e3, e4', e5, e6, e7, e8, e9]
  | [], e4, _ => ⟨e4, rfl⟩
  | l :: ls, e4, h => by
    obtain ⟨e4', q⟩ := gloop e0 e1 e2 e3 e5 e6 e7 e8 e9 ls (.fz (.str (S l))) fun x hx => h x (List.mem_cons_of_mem _ hx)
    refine ⟨e4', ?_⟩
    show forL (bName 4) lwJ (.str (S l) :: sL ls) _ = _
    unfold forL
    simp only [bName_def, List.set_cons_zero, List.set_cons_succ, lwJ_at e0 e1 e2 e3 e5 e6 e7 e8 e9 (h l List.mem_cons_self), q]
theorem job_asc (ws : List K63J.Wk) : Asc (K63J.jobL ws) := by
  intro c hc
  unfold K63J.jobL at hc
  obtain ⟨l, hl, hc⟩ := List.mem_flatten.mp hc
  obtain ⟨w, _, rfl⟩ := List.mem_map.mp hl
  rcases List.mem_append.mp hc with hc | hc
  · unfold K63J.Wk.L at hc
    rcases List.mem_append.mp hc with hc | hc
    · have hr := w.r.isLt
      simp only [List.mem_cons, List.not_mem_nil, or_false] at hc
      omega
    · obtain ⟨l, hl, hc⟩ := List.mem_flatten.mp hc
      obtain ⟨s, _, rfl⟩ := List.mem_map.mp hl
      rcases List.mem_cons.mp hc with rfl | hc
      · decide
      · have : ∀ s : K63J.Stp, ∀ c ∈ s.L, c < 128 := fun s => by
          cases s with
          | dow => decide +kernel
          | wai => decide +kernel
          | snd k => revert k; decide +kernel
        exact this s c hc
  · rw [List.mem_singleton.mp hc]; decide
theorem lwB_at (sc : List Int) (cl : D) {k : Nat} (hk : k ≤ 1000) (c : Int) (e4 e5 e6 e7 e8 e9 : Sl) :
    ∃ e4' e5' e6' e7', lwB [.fz (.list (sc.map .int)), .fz cl, .fz (.int k), .fz (.int c), e4, e5, e6, e7, e8, e9] = .nx [.fz (.list (sc.map .int)), .fz cl, .fz (.int k), .fz (.int c), e4', e5', e6', e7', e8, e9] := by
  have hdv : dDiv (.int k) (.int 2) = .ok (.int ((k : Int) / 2)) := dDiv_ok (by decide) (by decide)
  obtain ⟨ms, hms⟩ : ∃ ms : List Int, cutD (sc.map PyData.int) (some ((k : Int) / 2)) none = ms.map PyData.int := ⟨sc.drop ((k : Int) / 2).toNat, by rw [cut_from _ (by omega), List.map_drop]⟩
  obtain ⟨ws, hj, hJ⟩ := K63J.law_job_at ms (most := 12) (by decide) (by decide)
  have hlm := hJ.lm
  have ht := K63J.law_text_at ws hJ.ok (by omega)
  have hjl := K63J.job_len ws hJ.ok
  have hja := job_asc ws
  have hjl : (K63J.jobL ws).length ≤ 804 := by omega
  generalize K63J.jobL ws = L at ht hjl hja
  generalize K63J.jobD ws = J at hj ht
  obtain ⟨ns0, hd, hl, hn⟩ := K63J.digits_at c (many := 74) (by decide) (by decide)
  have hcut : cutD (ns0.map PyData.int) (some 60) none = (ns0.drop 60).map PyData.int := by rw [cut_from _ (by decide), List.map_drop]; rfl
  have hn := K63J.Ns.drop hn 60
  have hl : (ns0.drop 60).length = 14 := by rw [List.length_drop]; omega
  generalize ns0.drop 60 = ns at hcut hn hl
  have c7 : cutD (ns.map PyData.int) (some 7) none = (ns.drop 7).map PyData.int := by rw [cut_from _ (by decide), List.map_drop]; rfl
  have c10 : cutD (ns.map PyData.int) (some 10) none = (ns.drop 10).map PyData.int := by rw [cut_from _ (by decide), List.map_drop]; rfl
  have c4 : cutD (ns.map PyData.int) (some 4) none = (ns.drop 4).map PyData.int := by rw [cut_from _ (by decide), List.map_drop]; rfl
  obtain ⟨L1, r1, l1, a1⟩ := law_bent_rows_at (L := L) (by omega) hja (K63J.Ns.drop hn 7) (by rw [List.length_drop]; omega)
  obtain ⟨L2, r2, l2, a2⟩ := law_bent_rows_at (L := L1) (by omega) a1 (K63J.Ns.drop hn 10) (by rw [List.length_drop]; omega)
  obtain ⟨L3, r3, l3, a3⟩ := law_bent_at (L := L) (by omega) hja hn (by omega)
  obtain ⟨L4, r4, l4, a4⟩ := law_bent_rows_at (L := L) (by omega) hja (K63J.Ns.drop hn 4) (by rw [List.length_drop]; omega)
  obtain ⟨L5, r5, l5, a5⟩ := law_bent_at (L := L2) (by omega) a2 hn (by omega)
  generalize (ns.drop 7).map PyData.int = N7 at c7 r1
  generalize (ns.drop 10).map PyData.int = N10 at c10 r2
  generalize (ns.drop 4).map PyData.int = N4 at c4 r4
  generalize ns.map PyData.int = N at *
  generalize ms.map PyData.int = M at hms hj
  have b0 : lwb0 [.fz (.list (sc.map .int)), .fz cl, .fz (.int k), .fz (.int c), e4, e5, e6, e7, e8, e9] = .nx [.fz (.list (sc.map .int)), .fz cl, .fz (.int k), .fz (.int c), .fz (.str (S L)), e5, e6, e7, e8, e9] := by
    simp -implicitDefEqProofs [lwb0, hdv, hms, hj, ht]
  have b1 : lwb1 [.fz (.list (sc.map .int)), .fz cl, .fz (.int k), .fz (.int c), .fz (.str (S L)), e5, e6, e7, e8, e9] = .nx [.fz (.list (sc.map .int)), .fz cl, .fz (.int k), .fz (.int c), .fz (.str (S L)), .fz (.list N), e6, e7, e8, e9] := by
    simp -implicitDefEqProofs [lwb1, hd, hcut]
  have b2 : lwb2 [.fz (.list (sc.map .int)), .fz cl, .fz (.int k), .fz (.int c), .fz (.str (S L)), .fz (.list N), e6, e7, e8, e9] = .nx [.fz (.list (sc.map .int)), .fz cl, .fz (.int k), .fz (.int c), .fz (.str (S L)), .fz (.list N), .fz (.str (S L2)), e7, e8, e9] := by
    simp -implicitDefEqProofs [lwb2, c7, c10, r1, r2]
  obtain ⟨e7', q⟩ := floop (.fz (.list (sc.map .int))) (.fz cl) (.fz (.int k)) (.fz (.int c)) (.fz (.str (S L))) (.fz (.list N)) (.fz (.str (S L2))) e8 e9 [L3, L4, L2, L5, L] e7 (by
    intro l hl
    simp only [List.mem_cons, List.not_mem_nil, or_false] at hl
    rcases hl with rfl | rfl | rfl | rfl | rfl
    · exact ⟨by omega, a3⟩
    · exact ⟨by omega, a4⟩
    · exact ⟨by omega, a2⟩
    · exact ⟨by omega, a5⟩
    · exact ⟨by omega, hja⟩)
  have b3 : lwbL [.fz (.list (sc.map .int)), .fz cl, .fz (.int k), .fz (.int c), .fz (.str (S L)), .fz (.list N), .fz (.str (S L2)), e7, e8, e9] = .nx [.fz (.list (sc.map .int)), .fz cl, .fz (.int k), .fz (.int c), .fz (.str (S L)), .fz (.list N), .fz (.str (S L2)), e7', e8, e9] := by
    have hL : lwL (vw [] [.fz (.list (sc.map .int)), .fz cl, .fz (.int k), .fz (.int c), .fz (.str (S L)), .fz (.list N), .fz (.str (S L2)), e7, e8, e9]) = .ok (.list (sL [L3, L4, L2, L5, L])) := by
      simp -implicitDefEqProofs [lwL, c4, r3, r4, r5, sL]
    unfold lwbL
    rw [sfor_def, hL]
    simp -implicitDefEqProofs [q]
  refine ⟨.fz (.str (S L)), .fz (.list N), .fz (.str (S L2)), e7', ?_⟩
  unfold lwB
  simp only [sseq_def, b0, b1, b2, b3, sq_nx]
theorem cloop (sc : List Int) (cl : D) (e8 e9 : Sl) : ∀ (cs : List Int) (k : Nat) (e2 e3 e4 e5 e6 e7 : Sl), k + cs.length ≤ 1000 → ∃ e2' e3' e4' e5' e6' e7', forL (bTup [2, 3]) lwB (pairs k (cs.map .int)) [.fz (.list (sc.map .int)), .fz cl, e2, e3, e4, e5, e6, e7, e8, e9] = .nx [.fz (.list (sc.map .int)), .fz cl, e2', e3', e4', e5', e6', e7', e8, e9]
  | [], k, e2, e3, e4, e5, e6, e7, _ => ⟨e2, e3, e4, e5, e6, e7, rfl⟩
  | c :: cs, k, e2, e3, e4, e5, e6, e7, h => by
    simp only [List.length_cons] at h
    obtain ⟨f4, f5, f6, f7, hb⟩ := lwB_at sc cl (k := k) (by omega) c e4 e5 e6 e7 e8 e9
    obtain ⟨e2', e3', e4', e5', e6', e7', q⟩ := cloop sc cl e8 e9 cs (k + 1) (.fz (.int k)) (.fz (.int c)) f4 f5 f6 f7 (by omega)
    refine ⟨e2', e3', e4', e5', e6', e7', ?_⟩
    show forL (bTup [2, 3]) lwB (.tuple [.int (k : Nat), .int c] :: pairs (k + 1) (cs.map .int)) _ = _
    unfold forL
    have hbt : bTup [2, 3] (.tuple [.int (k : Nat), .int c]) [.fz (.list (sc.map .int)), .fz cl, e2, e3, e4, e5, e6, e7, e8, e9] = some [.fz (.list (sc.map .int)), .fz cl, .fz (.int k), .fz (.int c), e4, e5, e6, e7, e8, e9] := rfl
    simp only [hbt, hb, q]
def tx3 : List (List Nat) := [[], [10], [49, 58, 32, 100, 111], [49, 58, 32, 100, 111, 10], [49, 58, 32, 115, 101, 110, 100, 45, 49, 10], [49, 58, 32, 115, 101, 110, 100, 45, 49, 10, 49, 58, 32, 100, 111, 10], [49, 58, 32, 100, 111, 10, 49, 58, 32, 100, 111, 10, 49, 58, 32, 100, 111, 10, 49, 58, 32, 100, 111, 10, 49, 58, 32, 100, 111, 10, 49, 58, 32, 100, 111, 10, 49, 58, 32, 100, 111, 10, 49, 58, 32, 100, 111, 10, 49, 58, 32, 100, 111, 10, 49, 58, 32, 100, 111, 10, 49, 58, 32, 100, 111, 10, 49, 58, 32, 100, 111, 10, 49, 58, 32, 100, 111, 10], [49, 58, 10], [49, 58, 32, 119, 97, 105, 116, 10]]
theorem tx3_ok : ∀ l ∈ tx3, Tx l := by unfold Tx Asc; decide +kernel
theorem lw3_at (e0 e1 e2 e3 e4 e5 e6 e7 : Sl) : lw3 [e0, e1, e2, e3, e4, e5, e6, e7, .un, .un] = .nx [e0, e1, e2, e3, e4, e5, e6, e7, .fz (.list (sL tx3)), .un] := by
  have h : ∀ η, (lstD (lstF (acons (cst (.str "")) (acons (cst (.str "\n")) (acons (cst (.str "1: do")) (acons (cst (.str "1: do\n")) (acons (cst (.str "1: send-1\n")) (acons (cst (.str "1: send-1\n1: do\n")) (acons (bi2 dMulS (cst (.str "1: do\n")) (cst (.int 13))) (acons (cst (.str "1:\n")) (acons (cst (.str "1: wait\n")) anil))))))))))) η = .ok (.list (sL tx3)) := fun η => by kernel_rfl
  unfold lw3
  rw [asg_def, h]
  simp
def s1 : List Nat := [49, 58, 32, 115, 101, 110, 100, 45]
def s2 : List Nat := [49]
def s3 : List Nat := [57]
def s4 : List Nat := [58, 32, 100, 111, 10]
def s5 : List Nat := [49, 58, 32, 100, 111, 10]
def s6 : List Nat := [55]
def s7 : List Nat := [120, 10]
def s8 : List Nat := [49, 58, 32, 100, 111]
def s9 : List Nat := [48, 58, 32, 100, 111, 10]
theorem S_a1 : (Str.ofString "1: send-" : Str) = S s1 := by kernel_rfl
theorem S_a2 : (Str.ofString "1" : Str) = S s2 := by kernel_rfl
theorem S_a3 : (Str.ofString "9" : Str) = S s3 := by kernel_rfl
theorem S_a4 : (Str.ofString ": do\n" : Str) = S s4 := by kernel_rfl
theorem S_a5 : (Str.ofString "1: do\n" : Str) = S s5 := by kernel_rfl
theorem S_a6 : (Str.ofString "7" : Str) = S s6 := by kernel_rfl
theorem S_a7 : (Str.ofString "x\n" : Str) = S s7 := by kernel_rfl
theorem S_a8 : (Str.ofString "1: do" : Str) = S s8 := by kernel_rfl
theorem S_a9 : (Str.ofString "0: do\n" : Str) = S s9 := by kernel_rfl
theorem s_ok : (Asc s1 ∧ Asc s2 ∧ Asc s3 ∧ Asc s4 ∧ Asc s5 ∧ Asc s6 ∧ Asc s7 ∧ Asc s8 ∧ Asc s9) ∧ (s1.length ≤ 10 ∧ s2.length = 1 ∧ s3.length = 1 ∧ s4.length ≤ 10 ∧ s5.length ≤ 10 ∧ s6.length = 1 ∧ s7.length ≤ 10 ∧ s8.length ≤ 10 ∧ s9.length ≤ 10) := by unfold Asc; decide
theorem tx_app {a b : List Nat} (ha : Tx a) (hb : Asc b) (hl : a.length + b.length ≤ 99999) : Tx (a ++ b) := ⟨by rw [List.length_append]; exact hl, asc_app ha.2 hb⟩
theorem lw4_at (e0 e1 e2 e3 e4 e5 e6 e7 : Sl) {T : List (List Nat)} (hT : ∀ l ∈ T, Tx l) (hl : T.length ≤ 100) : ∃ T' : List (List Nat), (∀ l ∈ T', Tx l) ∧ T'.length ≤ 110 ∧ lw4 [e0, e1, e2, e3, e4, e5, e6, e7, .fz (.list (sL T)), .un] = .nx [e0, e1, e2, e3, e4, e5, e6, e7, .fz (.list (sL T')), .un] := by
  obtain ⟨⟨a1, a2, a3, a4, a5, a6, a7, a8, a9⟩, l1, l2, l3, l4, l5, l6, l7, l8, l9⟩ := s_ok
  obtain ⟨M1, q1, m1, h1⟩ := mul_S a2 (n := 5000) (by decide) (by decide) (by rw [l2]; decide)
  obtain ⟨M2, q2, m2, h2⟩ := mul_S a3 (n := 5000) (by decide) (by decide) (by rw [l3]; decide)
  obtain ⟨M3, q3, m3, h3⟩ := mul_S a6 (n := 5000) (by decide) (by decide) (by rw [l6]; decide)
  have d1 := dAdd_S (a := s1) (b := M1) (by omega)
  have d2 := dAdd_S (a := s1 ++ M1) (b := [10]) (by rw [List.length_append]; simp only [List.length_cons, List.length_nil]; omega)
  have d3 := dAdd_S (a := M2) (b := s4) (by omega)
  have d4 := dAdd_S (a := s5) (b := M3) (by omega)
  refine ⟨T ++ [s1 ++ M1 ++ [10], M2 ++ s4, s5 ++ M3], ?_, by rw [List.length_append]; simp only [List.length_cons, List.length_nil]; omega, ?_⟩
  · intro l hl
    rcases List.mem_append.mp hl with hl | hl
    · exact hT l hl
    · simp only [List.mem_cons, List.not_mem_nil, or_false] at hl
      rcases hl with rfl | rfl | rfl
      · exact ⟨by simp only [List.length_append, List.length_cons, List.length_nil]; omega, asc_app (asc_app a1 h1) (by unfold Asc; decide)⟩
      · exact ⟨by simp only [List.length_append]; omega, asc_app h2 a4⟩
      · exact ⟨by simp only [List.length_append]; omega, asc_app a5 h3⟩
  · have hA : dAddF (.list (sL T)) (.list [.str (S (s1 ++ M1 ++ [10])), .str (S (M2 ++ s4)), .str (S (s5 ++ M3))]) = .ok (sL (T ++ [s1 ++ M1 ++ [10], M2 ++ s4, s5 ++ M3])) := by
      rw [show [PyData.str (S (s1 ++ M1 ++ [10])), .str (S (M2 ++ s4)), .str (S (s5 ++ M3))] = sL [s1 ++ M1 ++ [10], M2 ++ s4, s5 ++ M3] from rfl, dAddF_l, sL_len, sL_len, if_pos (by simp only [List.length_cons, List.length_nil]; omega), sL_app]
    generalize T ++ [s1 ++ M1 ++ [10], M2 ++ s4, s5 ++ M3] = T' at hA ⊢
    generalize s1 ++ M1 ++ [10] = x3 at d2 hA
    generalize s1 ++ M1 = x1 at d1 d2
    generalize M2 ++ s4 = x4 at d3 hA
    generalize s5 ++ M3 = x5 at d4 hA
    simp -implicitDefEqProofs [-dAdd_ss, -dMulS_s, lw4, biF, S_a1, S_a2, S_a3, S_a4, S_a5, S_a6, S_nl, q1, q2, q3, d1, d2, d3, d4, hA]
theorem lw6_at (e0 e1 e2 e3 e4 e5 e6 e7 : Sl) {T : List (List Nat)} {n : Int} (hn : 14 ≤ n) (hn2 : n ≤ 60) (hT : ∀ l ∈ T, Tx l) (hl : T.length ≤ 110) : ∃ T' : List (List Nat), (∀ l ∈ T', Tx l) ∧ lw6 [e0, e1, e2, e3, e4, e5, e6, e7, .fz (.list (sL T)), .fz (.int n)] = .nx [e0, e1, e2, e3, e4, e5, e6, e7, .fz (.list (sL T')), .fz (.int n)] := by
  obtain ⟨⟨a1, a2, a3, a4, a5, a6, a7, a8, a9⟩, l1, l2, l3, l4, l5, l6, l7, l8, l9⟩ := s_ok
  have hm : s5.length * n.toNat ≤ 10 * 60 := Nat.mul_le_mul l5 (by omega)
  obtain ⟨M1, q1, m1, h1⟩ := mul_S a5 (n := n) (by omega) (by omega) (by omega)
  have d1 := dAdd_S (a := M1) (b := s7) (by omega)
  have d2 := dAdd_S (a := M1) (b := s8) (by omega)
  have d3 := dAdd_S (a := M1) (b := s9) (by omega)
  have d4 := dAdd_S (a := M1 ++ s9) (b := s7) (by rw [List.length_append]; omega)
  refine ⟨T ++ [M1 ++ s7, M1 ++ s8, M1 ++ s9 ++ s7], ?_, ?_⟩
  · intro l hl
    rcases List.mem_append.mp hl with hl | hl
    · exact hT l hl
    · simp only [List.mem_cons, List.not_mem_nil, or_false] at hl
      rcases hl with rfl | rfl | rfl
      · exact ⟨by simp only [List.length_append]; omega, asc_app h1 a7⟩
      · exact ⟨by simp only [List.length_append]; omega, asc_app h1 a8⟩
      · exact ⟨by simp only [List.length_append]; omega, asc_app (asc_app h1 a9) a7⟩
  · have hA : dAddF (.list (sL T)) (.list [.str (S (M1 ++ s7)), .str (S (M1 ++ s8)), .str (S (M1 ++ s9 ++ s7))]) = .ok (sL (T ++ [M1 ++ s7, M1 ++ s8, M1 ++ s9 ++ s7])) := by
      rw [show [PyData.str (S (M1 ++ s7)), .str (S (M1 ++ s8)), .str (S (M1 ++ s9 ++ s7))] = sL [M1 ++ s7, M1 ++ s8, M1 ++ s9 ++ s7] from rfl, dAddF_l, sL_len, sL_len, if_pos (by simp only [List.length_cons, List.length_nil]; omega), sL_app]
    generalize T ++ [M1 ++ s7, M1 ++ s8, M1 ++ s9 ++ s7] = T' at hA ⊢
    generalize M1 ++ s9 ++ s7 = x3 at d4 hA
    generalize M1 ++ s9 = x1 at d3 d4
    generalize M1 ++ s7 = x4 at d1 hA
    generalize M1 ++ s8 = x5 at d2 hA
    simp -implicitDefEqProofs [-dAdd_ss, -dMulS_s, lw6, biF, S_a5, S_a7, S_a8, S_a9, q1, d1, d2, d3, d4, hA]
theorem lw8_at (ρ : Env') : lw8 ρ = .rt (.bool true) := by
  have h : ∀ η, (bi2 dEq (xfl "NoText" "line" (mkx "NoText" "line" (cst (.int 7)))) (cst (.int 7))) η = .ok (.bool true) := fun η => by
    have hx : xfD "NoText" "line" (excD ⟨"NoText", [("line", .int 7)]⟩) = .ok (.int 7) := by
      show (if (("NoText" : Str) = "NoText" ∧ ("line" : Str) = "line") then Rv.ok (PyData.int 7) else .un) = _
      rw [if_pos ⟨rfl, rfl⟩]
    simp only [bi2_def, xfl, mkx, cst_def, Rv.bind_ok, hx, dEq_ii, decide_true]
  unfold lw8
  rw [ret_def, h]
  rfl
theorem w01_at (ns : List Int) : ∃ cs : List Int, cs.length ≤ 10 ∧ ∀ g, sseq lw0 (sseq lw1 g) [.fz (.list (ns.map .int)), .un, .un, .un, .un, .un, .un, .un, .un, .un] = g [.fz (.list (ns.map .int)), .fz (.list (cs.map .int)), .un, .un, .un, .un, .un, .un, .un, .un] := by
  have c10 : cutD (ns.map PyData.int) none (some 10) = (ns.take 10).map PyData.int := by rw [cut_to _ (by decide), List.map_take]; rfl
  have hq := dEq_nil (ns.take 10)
  have hl : (ns.take 10).length ≤ 10 := by rw [List.length_take]; omega
  generalize ns.take 10 = t at c10 hq hl
  cases ht : t.isEmpty with
  | true =>
    refine ⟨[8], by decide, fun g => ?_⟩
    rw [ht] at hq
    generalize t.map PyData.int = C at c10 hq
    simp -implicitDefEqProofs [lw0, lw1, c10, hq]
  | false =>
    refine ⟨t, hl, fun g => ?_⟩
    rw [ht] at hq
    generalize t.map PyData.int = C at c10 hq ⊢
    simp -implicitDefEqProofs [lw0, lw1, c10, hq]
theorem w2_at (ns cs : List Int) (hcl : cs.length ≤ 10) : ∃ e2 e3 e4 e5 e6 e7, lw2 [.fz (.list (ns.map .int)), .fz (.list (cs.map .int)), .un, .un, .un, .un, .un, .un, .un, .un] = .nx [.fz (.list (ns.map .int)), .fz (.list (cs.map .int)), e2, e3, e4, e5, e6, e7, .un, .un] := by
  obtain ⟨e2, e3, e4, e5, e6, e7, q2⟩ := cloop ns (.list (cs.map .int)) .un .un cs 0 .un .un .un .un .un .un (by omega)
  refine ⟨e2, e3, e4, e5, e6, e7, ?_⟩
  unfold lw2
  rw [sforE_at (xs := cs.map .int) (by simp), frz_nil0]
  exact q2
theorem w57_at (ns : List Int) (e1 e2 e3 e4 e5 e6 e7 : Sl) {T4 : List (List Nat)} (t4 : ∀ l ∈ T4, Tx l) (n4 : T4.length ≤ 110) : (sseq lw5 (sseq lw6 (sseq lw7 lw8))) [.fz (.list (ns.map .int)), e1, e2, e3, e4, e5, e6, e7, .fz (.list (sL T4)), .un] = .rt (.bool true) := by
  obtain ⟨v, hv⟩ := K63J.law_at_at ns (k := 0) (by decide)
  obtain ⟨av, hav⟩ : ∃ av : Int, dAbs [.int v] = .ok (.int av) := ⟨_, dAbs_i v⟩
  have hmd : dMod (.int av) (.int 40) = .ok (.int (av % 40)) := dMod_ok (by decide)
  have x0 := Int.emod_nonneg av (show (40 : Int) ≠ 0 by decide)
  have x1 := Int.emod_lt_of_pos av (show (0 : Int) < 40 by decide)
  generalize av % 40 = w at hmd x0 x1
  obtain ⟨T6, t6, w6⟩ := lw6_at (.fz (.list (ns.map .int))) e1 e2 e3 e4 e5 e6 e7 (T := T4) (n := 14 + w) (by omega) (by omega) t4 n4
  obtain ⟨e4', q7⟩ := gloop (.fz (.list (ns.map .int))) e1 e2 e3 e5 e6 e7 (.fz (.list (sL T6))) (.fz (.int (14 + w))) T6 e4 t6
  generalize sL T4 = S4 at *
  generalize sL T6 = S6 at *
  have w5 : lw5 [.fz (.list (ns.map .int)), e1, e2, e3, e4, e5, e6, e7, .fz (.list S4), .un] = .nx [.fz (.list (ns.map .int)), e1, e2, e3, e4, e5, e6, e7, .fz (.list S4), .fz (.int (14 + w))] := by
    simp -implicitDefEqProofs [-dAbs_i, lw5, hv, hav, hmd]
  have w7 : lw7 [.fz (.list (ns.map .int)), e1, e2, e3, e4, e5, e6, e7, .fz (.list S6), .fz (.int (14 + w))] = .nx [.fz (.list (ns.map .int)), e1, e2, e3, e4', e5, e6, e7, .fz (.list S6), .fz (.int (14 + w))] := by
    unfold lw7
    rw [sfor_def]
    simp -implicitDefEqProofs [q7]
  rw [sseq_def, w5, sq_nx, sseq_def, w6, sq_nx, sseq_def, w7, sq_nx, lw8_at]
theorem plain (ns : List Int) (h : ns.length ≤ 63) (hb : ∀ z ∈ ns, Builtin.Int.intBits z ≤ 1048576) : f_law [.list (ns.map .int)] = .ok (.bool true) := by
  obtain ⟨cs, hcl, w01⟩ := w01_at ns
  obtain ⟨e2, e3, e4, e5, e6, e7, w2⟩ := w2_at ns cs hcl
  have w3 := lw3_at (.fz (.list (ns.map .int))) (.fz (.list (cs.map .int))) e2 e3 e4 e5 e6 e7
  have n3 : tx3.length ≤ 100 := Nat.le_of_ble_eq_true rfl
  obtain ⟨T4, t4, n4, w4⟩ := lw4_at (.fz (.list (ns.map .int))) (.fz (.list (cs.map .int))) e2 e3 e4 e5 e6 e7 tx3_ok n3
  have w5 := w57_at ns (.fz (.list (cs.map .int))) e2 e3 e4 e5 e6 e7 t4 n4
  have e : m_law [.fz (.list (ns.map .int)), .un, .un, .un, .un, .un, .un, .un, .un, .un] = .rt (.bool true) := by
    rw [law_def, w01, sseq_def, w2, sq_nx, sseq_def, w3, sq_nx, sseq_def, w4, sq_nx, w5]
  show (m_law [.fz (.list (ns.map .int)), .un, .un, .un, .un, .un, .un, .un, .un, .un]).fin = _
  rw [e]
  rfl
end K63


open PySem PySem.W PyProof.Rows in
set_option maxRecDepth 100000 in
set_option maxHeartbeats 0 in
theorem PySem.Challenge.cw_farend_k63_wrong_texts_of_jobs_holds : PySem.Challenge.rw_farend_k63_wrong_texts_of_jobs.Holds := by
  w_on; o_law; k_head; (case hw => w_witness2)
  k_fill
  refine Bv.walk_G (l := PySem.Challenge.rw_farend_k63_wrong_texts_of_jobs) (k := 8) rfl rfl ⟨by decide, by decide, by decide⟩ (fun w h Y => PySem.W.kIn_of Y) ?F K63.plain
  case F =>
    intro w mg h base KX G
    refine' K63.all_mk KX G ?a_is_whole ?l_is_whole ?c_is_whole ?k_is_whole ?a_is_step ?l_is_step ?c_is_step ?k_is_step ?a_is_work ?l_is_work ?c_is_work ?k_is_work ?a_sent_by ?l_sent_by ?c_sent_by ?k_sent_by ?a_is_job ?l_is_job ?c_is_job ?k_is_job ?a_number_of ?l_number_of ?c_number_of ?k_number_of ?a_step_of ?l_step_of ?c_step_of ?k_step_of ?a_work_of ?l_work_of ?c_work_of ?k_work_of ?a_read_job ?l_read_job ?c_read_job ?k_read_job ?a_law_mix ?l_law_mix ?c_law_mix ?k_law_mix ?a_law_digits ?l_law_digits ?c_law_digits ?k_law_digits ?a_law_at ?l_law_at ?c_law_at ?k_law_at ?a_law_job ?l_law_job ?c_law_job ?k_law_job ?a_law_text ?l_law_text ?c_law_text ?k_law_text ?a_law_number ?l_law_number ?c_law_number ?k_law_number ?a_law_work ?l_law_work ?c_law_work ?k_law_work ?a_law_read ?l_law_read ?c_law_read ?k_law_read ?a_law_told ?l_law_told ?c_law_told ?k_law_told ?a_law_right ?l_law_right ?c_law_right ?k_law_right ?a_law_bent ?l_law_bent ?c_law_bent ?k_law_bent ?a_law_bent_rows ?l_law_bent_rows ?c_law_bent_rows ?k_law_bent_rows ?a_law ?l_law ?c_law ?k_law ?gn_MOST_ROOM_jobs ?gn_MOST_ROOM_texts ?gn_MOST_STEPS_jobs ?gn_MOST_STEPS_texts ?gn_MOST_WORKS ?gn_FIGURES ?g_NoJob ?xe_NoJob ?kp_NoJob ?sb_NoJob ?ty_NoJob ?g_NoText ?g_FarError ?lk_NoText ?rv_NoText ?sa_NoText ?sb_NoText ?ty_NoText ?kp_NoText ?fi_NoText ?tf_NoText ?n_NoText_line ?li_NoText ?ci_NoText ?ki_NoText ?sp_FarError ?rd_FarError ?fc_FarError ?sb_FarError ?hd_FarError ?ty_FarError ?su_NoJob_FarError ?su_NoText_FarError ?g_NoBack ?g_NoLine ?g_NoOrder ?g_NoSize ?g_NoTurn ?g_NoYard ?g_ValueError ?ga_NoJob ?gt_NoJob ?hc_NoJob ?sg_NoJob ?tk_NoJob ?mr_NoJob ?hd_NoJob ?ga_NoText ?gt_NoText ?hc_NoText ?sg_NoText ?tk_NoText ?mr_NoText ?hd_NoText ?q_NoJob_NoBack ?q_NoJob_NoJob ?q_NoJob_NoLine ?q_NoJob_NoOrder ?q_NoJob_NoSize ?q_NoJob_NoText ?q_NoJob_NoTurn ?q_NoJob_NoYard ?q_NoJob_ValueError ?q_NoText_NoBack ?q_NoText_NoJob ?q_NoText_NoLine ?q_NoText_NoOrder ?q_NoText_NoSize ?q_NoText_NoText ?q_NoText_NoTurn ?q_NoText_NoYard ?q_NoText_ValueError ?z_isinstance ?z_bool ?z_int ?z_str ?z_tuple ?z_len ?z_all ?z_range ?z_sorted ?z_list ?z_abs ?z_min ?z_max ?z_enumerate ?z_repr
    (case a_is_whole => k_is)
    (case l_is_whole => k_is)
    (case c_is_whole => k_is)
    (case k_is_whole => k_is)
    (case a_is_step => k_is)
    (case l_is_step => k_is)
    (case c_is_step => k_is)
    (case k_is_step => k_is)
    (case a_is_work => k_is)
    (case l_is_work => k_is)
    (case c_is_work => k_is)
    (case k_is_work => k_is)
    (case a_sent_by => k_is)
    (case l_sent_by => k_is)
    (case c_sent_by => k_is)
    (case k_sent_by => k_is)
    (case a_is_job => k_is)
    (case l_is_job => k_is)
    (case c_is_job => k_is)
    (case k_is_job => k_is)
    (case a_number_of => k_is)
    (case l_number_of => k_is)
    (case c_number_of => k_is)
    (case k_number_of => k_is)
    (case a_step_of => k_is)
    (case l_step_of => k_is)
    (case c_step_of => k_is)
    (case k_step_of => k_is)
    (case a_work_of => k_is)
    (case l_work_of => k_is)
    (case c_work_of => k_is)
    (case k_work_of => k_is)
    (case a_read_job => k_is)
    (case l_read_job => k_is)
    (case c_read_job => k_is)
    (case k_read_job => k_is)
    (case a_law_mix => k_is)
    (case l_law_mix => k_is)
    (case c_law_mix => k_is)
    (case k_law_mix => k_is)
    (case a_law_digits => k_is)
    (case l_law_digits => k_is)
    (case c_law_digits => k_is)
    (case k_law_digits => k_is)
    (case a_law_at => k_is)
    (case l_law_at => k_is)
    (case c_law_at => k_is)
    (case k_law_at => k_is)
    (case a_law_job => k_is)
    (case l_law_job => k_is)
    (case c_law_job => k_is)
    (case k_law_job => k_is)
    (case a_law_text => k_is)
    (case l_law_text => k_is)
    (case c_law_text => k_is)
    (case k_law_text => k_is)
    (case a_law_number => k_is)
    (case l_law_number => k_is)
    (case c_law_number => k_is)
    (case k_law_number => k_is)
    (case a_law_work => k_is)
    (case l_law_work => k_is)
    (case c_law_work => k_is)
    (case k_law_work => k_is)
    (case a_law_read => k_is)
    (case l_law_read => k_is)
    (case c_law_read => k_is)
    (case k_law_read => k_is)
    (case a_law_told => k_is)
    (case l_law_told => k_is)
    (case c_law_told => k_is)
    (case k_law_told => k_is)
    (case a_law_right => k_is)
    (case l_law_right => k_is)
    (case c_law_right => k_is)
    (case k_law_right => k_is)
    (case a_law_bent => k_is)
    (case l_law_bent => k_is)
    (case c_law_bent => k_is)
    (case k_law_bent => k_is)
    (case a_law_bent_rows => k_is)
    (case l_law_bent_rows => k_is)
    (case c_law_bent_rows => k_is)
    (case k_law_bent_rows => k_is)
    (case a_law => k_is)
    (case l_law => k_is)
    (case c_law => k_is)
    (case k_law => k_is)
    (case gn_MOST_ROOM_jobs => k_is)
    (case gn_MOST_ROOM_texts => k_is)
    (case gn_MOST_STEPS_jobs => k_is)
    (case gn_MOST_STEPS_texts => k_is)
    (case gn_MOST_WORKS => k_is)
    (case gn_FIGURES => k_is)
    (case g_NoJob => k_is)
    (case xe_NoJob => k_exc)
    (case kp_NoJob => k_is)
    (case sb_NoJob => k_is)
    (case ty_NoJob => k_is)
    (case g_NoText => k_is)
    (case g_FarError => k_is)
    (case lk_NoText => k_is)
    (case rv_NoText => decide +kernel)
    (case sa_NoText => k_is)
    (case sb_NoText => k_is)
    (case ty_NoText => k_is)
    (case kp_NoText => k_is)
    (case fi_NoText => k_is)
    (case tf_NoText => k_is)
    (case n_NoText_line => k_is)
    (case li_NoText => k_is)
    (case ci_NoText => k_is)
    (case ki_NoText => k_is)
    (case sp_FarError => k_is)
    (case rd_FarError => k_is)
    (case fc_FarError => k_is)
    (case sb_FarError => k_is)
    (case hd_FarError => k_is)
    (case ty_FarError => k_is)
    (case su_NoJob_FarError => k_is)
    (case su_NoText_FarError => k_is)
    (case g_NoBack => k_is)
    (case g_NoLine => k_is)
    (case g_NoOrder => k_is)
    (case g_NoSize => k_is)
    (case g_NoTurn => k_is)
    (case g_NoYard => k_is)
    (case g_ValueError => k_is)
    (case ga_NoJob => k_is)
    (case gt_NoJob => k_is)
    (case hc_NoJob => k_is)
    (case sg_NoJob => k_is)
    (case tk_NoJob => k_is)
    (case mr_NoJob => k_is)
    (case hd_NoJob => k_is)
    (case ga_NoText => k_is)
    (case gt_NoText => k_is)
    (case hc_NoText => k_is)
    (case sg_NoText => k_is)
    (case tk_NoText => k_is)
    (case mr_NoText => k_is)
    (case hd_NoText => k_is)
    (case q_NoJob_NoBack => first | k_is | kit_is)
    (case q_NoJob_NoJob => first | k_is | kit_is)
    (case q_NoJob_NoLine => first | k_is | kit_is)
    (case q_NoJob_NoOrder => first | k_is | kit_is)
    (case q_NoJob_NoSize => first | k_is | kit_is)
    (case q_NoJob_NoText => first | k_is | kit_is)
    (case q_NoJob_NoTurn => first | k_is | kit_is)
    (case q_NoJob_NoYard => first | k_is | kit_is)
    (case q_NoJob_ValueError => first | k_is | kit_is)
    (case q_NoText_NoBack => first | k_is | kit_is)
    (case q_NoText_NoJob => first | k_is | kit_is)
    (case q_NoText_NoLine => first | k_is | kit_is)
    (case q_NoText_NoOrder => first | k_is | kit_is)
    (case q_NoText_NoSize => first | k_is | kit_is)
    (case q_NoText_NoText => first | k_is | kit_is)
    (case q_NoText_NoTurn => first | k_is | kit_is)
    (case q_NoText_NoYard => first | k_is | kit_is)
    (case q_NoText_ValueError => first | k_is | kit_is)
    (case z_isinstance => k_is)
    (case z_bool => k_is)
    (case z_int => k_is)
    (case z_str => k_is)
    (case z_tuple => k_is)
    (case z_len => k_is)
    (case z_all => k_is)
    (case z_range => k_is)
    (case z_sorted => k_is)
    (case z_list => k_is)
    (case z_abs => k_is)
    (case z_min => k_is)
    (case z_max => k_is)
    (case z_enumerate => k_is)
    (case z_repr => k_is)
