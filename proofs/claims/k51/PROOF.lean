import PyProof.Rows.All
import Wide.All
import OpenK.AllK
import Wide.FinOn
import HandS.ForMost
import HandS.Exc
import HandS.ExcInit
import HandS.IsInst
import HandS.ExcOwn
import HandS.TupAny
import HandS.TupMul
import HandS.Dict
import KE.KDictKeyed
import HandS.Deep
import HandS.Walk
import KE.GoesEnum
import PyProof.ReprRoads
import HandS.EndBits
import HandS.More
import HandS.SortInts
import KE.KExcIs
import HandS.ExcIs
import KE.KDictDisplayH
import HandS.RevTup
import HandS.Rev
import PyProof.ListNew
import KE.KTupSum
import HandS.SortOrd
import PyProof.Rows.SortKeyStr
import HandS.Codes
import HandS.Iter
import HandS.Text
import HandS.RaiseMore
import HandS.Conv
import HandS.ExcValue
import PyProof.StrBlock2
import HandS.Style
import HandS.TupLen
import PySem.Challenge.RW_farend_k51_all_endings
import PyProof.P3Eq
import PyProof.ReprLen
import PyProof.ReprText
set_option Elab.async false
set_option linter.all false
set_option maxRecDepth 100000
/-! By value: what a program's parts compute, told of plain data. -/
namespace Bv
open PySem PySem.Spec L2 PyProof.Rows

abbrev D := PyData
/-- the world of a text: the program, the world, the written part -/
structure Cz where
  P : Program
  w : World
  K : PySem.W.Frag
  mg : Str → Option Value
abbrev cz (X : Cx) : Cz := ⟨X.prog, X.w, X.K, X.mg⟩

/-! ### heaps that grow, heaps of which a part is hidden -/
def Gr (H H' : Hp) : Prop := ∀ a o, H a = some o → H' a = some o
theorem Gr.refl (H : Hp) : Gr H H := fun _ _ h => h
theorem Gr.trans {H H1 H2 : Hp} (a : Gr H H1) (b : Gr H1 H2) : Gr H H2 := fun x o h => b x o (a x o h)
theorem Gr.free {H H' : Hp} (e : Gr H H') {p : Addr} (h : H' p = none) : H p = none := by
  cases q : H p with
  | none => rfl
  | some o => rw [e p o q] at h; cases h
theorem Gr.new {H : Hp} {p : Addr} {o : HO} (h : H p = none) : Gr H (upd H p o) := fun a u e => by
  rw [upd_ne (ne_of_none e h)]; exact e
theorem Gr.mut {H H' : Hp} {p : Addr} {o : HO} (e : Gr H H') (h : H p = none) : Gr H (upd H' p o) := fun a u q => by
  rw [upd_ne (ne_of_none q h)]; exact e a u q
open Classical in
noncomputable def hid (H : Hp) (Z : Addr → Prop) : Hp := fun a => if Z a then none else H a
theorem hid_no {H : Hp} {Z : Addr → Prop} {a : Addr} (h : ¬ Z a) : hid H Z a = H a := if_neg h
theorem hid_yes {H : Hp} {Z : Addr → Prop} {a : Addr} (h : Z a) : hid H Z a = none := if_pos h
theorem hid_some {H : Hp} {Z : Addr → Prop} {a : Addr} {o : HO} (h : hid H Z a = some o) : ¬ Z a ∧ H a = some o := by
  by_cases z : Z a
  · rw [hid_yes z] at h; cases h
  · rw [hid_no z] at h; exact ⟨z, h⟩
theorem Gr.hid_le (H : Hp) (Z : Addr → Prop) : Gr (hid H Z) H := fun _ _ h => (hid_some h).2
theorem Gr.hid {H H' : Hp} (e : Gr H H') (Z : Addr → Prop) : Gr (Bv.hid H Z) (Bv.hid H' Z) := fun a o h => by
  obtain ⟨z, q⟩ := hid_some h
  rw [hid_no z]; exact e a o q
theorem Gr.hid2 {H H' : Hp} {Z Z' : Addr → Prop} (e : Gr H H') (hz : ∀ a, Z' a → Z a) : Gr (Bv.hid H Z) (Bv.hid H' Z') := fun a o h => by
  obtain ⟨z, q⟩ := hid_some h
  rw [hid_no fun y => z (hz a y)]; exact e a o q
/-- the hidden stands -/
def In (Z : Addr → Prop) (H : Hp) : Prop := ∀ a, Z a → H a ≠ none
theorem In.gr {Z : Addr → Prop} {H H' : Hp} (z : In Z H) (e : Gr H H') : In Z H' := fun a h n => z a h (e.free n)
theorem In.not {Z : Addr → Prop} {H : Hp} (z : In Z H) {p : Addr} (h : H p = none) : ¬ Z p := fun y => z p y h
theorem hid_new {H : Hp} {Z : Addr → Prop} {p : Addr} {o : HO} (z : In Z H) (h : H p = none) : hid (upd H p o) Z p = some o := by
  rw [hid_no (z.not h), upd_same]
theorem Gr.rd {H H' : Hp} {a : Addr} {u : HO} (e : Gr H H') (h : Rd H a u) : Rd H' a u := h.imp (fun q => e _ _ q) fun ⟨o, q⟩ => ⟨o, e _ _ q⟩
/-- a list, tracked or one that the text's top has written -/
def RdL (K : PySem.W.Frag) (H : Hp) (a : Addr) (xs : List V) : Prop :=
  Rd H a (.lst xs) ∨ ∃ (its : List Value) (n : Nat), K.lookup a = some { cls := .type "list", data := .seq its.toArray n } ∧ Vals xs its ∧ xs.length ≤ sizeLine
theorem RdL.sq {K : PySem.W.Frag} {H : Hp} {a : Addr} {xs : List V} (h : RdL K H a xs) : SqL K H a xs :=
  h.imp id fun ⟨its, n, e, r, z⟩ => ⟨_, its.toArray, n, e, rfl, rfl, rfl, by rw [List.size_toArray, ← r.length]; exact z, by simpa using r⟩
theorem Gr.rdl {K : PySem.W.Frag} {H H' : Hp} {a : Addr} {xs : List V} (e : Gr H H') (h : RdL K H a xs) : RdL K H' a xs := h.imp (fun q => e.rd q) id
theorem Gr.sqL {K : PySem.W.Frag} {H H' : Hp} {a : Addr} {xs : List V} (e : Gr H H') (h : SqL K H a xs) : SqL K H' a xs := h.imp (fun q => e.rd q) id
theorem Gr.sqT {K : PySem.W.Frag} {H H' : Hp} {a : Addr} {xs : List V} (e : Gr H H') (h : SqT K H a xs) : SqT K H' a xs := h.imp (fun q => e.rd q) id

/-! ### data -/
/-- an object known to the sign -/
def rawO (a : Addr) (o : Obj) : HO := .ext fun h => h.get? a = some o
/-- an exception's object: its class, its own dict -/
def rawE (a C : Addr) (dx : Option Addr) : HO := .ext fun h => ∃ (oe : Obj) (vs : Array Value), h.get? a = some oe ∧ Zc (.ref C) dx oe ∧ oe.data = .fields vs
/- data as a key: whole numbers, truths, texts, None, tuples of such -/
mutual
def nkey : D → Option NestedKey
  | .none => some .none
  | .bool b => some (.num (if b = true then 1 else 0))
  | .int i => some (.num i)
  | .str x => some (.text x)
  | .tuple ds => (nkeys ds).map .tup
  | .list _ => none
  | .dict _ => none
def nkeys : List D → Option (List NestedKey)
  | [] => some []
  | d :: ds => (nkey d).bind fun k => (nkeys ds).map (k :: ·)
end
/-- .. not deeper than the model asks -/
def dkey (d : D) : Option NestedKey := (nkey d).bind fun k => if k.depth ≤ 8 then some k else none
/-- what the object of a dict with tuples for keys says: key, the key's tuple, value -/
structure DN (c : Cz) (a : Addr) (o : Obj) (xs : List (NestedKey × Addr × V)) : Prop where
  sm : (a == sysModules) = false
  ed : o.ExactDict
  nd : (xs.map (·.1)).Nodup
  en : ∃ (es : Array DictEntry) (ep : Nat) (us : List (NestedKey × Addr × Value)), o.data = .dict es ep ∧ Paired (fun (x : NestedKey × Addr × V) (u : NestedKey × Addr × Value) => x.1 = u.1 ∧ x.2.1 = u.2.1 ∧ RelV x.2.2 u.2.2) xs us ∧ es.toList = us.map (entryOfKey (nestedKind c.P c.w))
/-- a key of a dict of whole numbers and texts, as data -/
def kD : Key → D
  | .inl i => .int i
  | .inr x => .str x
/-- the marks ahead of a dict's entries: keys are whole numbers and texts; keys are tuples -/
abbrev mK : D × D := (.none, .int 0)
abbrev mN : D × D := (.none, .int 1)
mutual
inductive Rp (c : Cz) (H : Hp) : V → D → Prop
  | non : Rp c H .non .none
  | bl (b : Bool) : Rp c H (.bl b) (.bool b)
  | int (i : Int) : Rp c H (.int i) (.int i)
  | str (x : Str) : Rp c H (.str x) (.str x)
  | lst {a : Addr} {xs : List V} {ds : List D} : RdL c.K H a xs → RpA c H xs ds → Rp c H (.ref a) (.list ds)
  | tup {a : Addr} {xs : List V} {ds : List D} : SqT c.K H a xs → RpA c H xs ds → Rp c H (.ref a) (.tuple ds)
  | dctK {a : Addr} {kvs : List (Key × V)} {ds : List (D × D)} : Rd H a (.dK kvs) → RpK c H kvs ds → Rp c H (.ref a) (.dict ((.none, .int 0) :: ds))
  | dctN {a : Addr} {o : Obj} {xs : List (NestedKey × Addr × V)} {ds : List (D × D)} : H a = some (rawO a o) → DN c a o xs → RpN c H xs ds → Rp c H (.ref a) (.dict ((.none, .int 1) :: ds))
  | exc0 {a C : Addr} {cls : Str} : H a = some (rawE a C none) → c.mg cls = some (.ref C) → Rp c H (.ref a) (.dict ((.none, .str cls) :: []))
  | exc1 {a C dd : Addr} {cls f : Str} {v : V} {d : D} : H a = some (rawE a C (some dd)) → c.mg cls = some (.ref C) → H dd = some (.xd [(f, v)]) → Rp c H v d → Rp c H (.ref a) (.dict ((.none, .str cls) :: (.str f, d) :: []))
inductive RpA (c : Cz) (H : Hp) : List V → List D → Prop
  | nil : RpA c H [] []
  | cons {v : V} {vs : List V} {d : D} {ds : List D} : Rp c H v d → RpA c H vs ds → RpA c H (v :: vs) (d :: ds)
inductive RpK (c : Cz) (H : Hp) : List (Key × V) → List (D × D) → Prop
  | nil : RpK c H [] []
  | cons {k : Key} {v : V} {vs : List (Key × V)} {d : D} {ds : List (D × D)} : Rp c H v d → RpK c H vs ds → RpK c H ((k, v) :: vs) ((kD k, d) :: ds)
inductive RpN (c : Cz) (H : Hp) : List (NestedKey × Addr × V) → List (D × D) → Prop
  | nil : RpN c H [] []
  | cons {k : NestedKey} {b : Addr} {v : V} {vs : List (NestedKey × Addr × V)} {e d : D} {ds : List (D × D)} : Rp c H (.ref b) e → dkey e = some k → Rp c H v d → RpN c H vs ds → RpN c H ((k, b, v) :: vs) ((e, d) :: ds)
end
section
variable {c : Cz} {H H' : Hp}
mutual
theorem Rp.gr (e : Gr H H') : ∀ {d : D} {v : V}, Rp c H v d → Rp c H' v d
  | .none, _, h => by cases h; exact .non
  | .bool b, _, h => by cases h; exact .bl b
  | .int i, _, h => by cases h; exact .int i
  | .str x, _, h => by cases h; exact .str x
  | .list ds, _, h => by
    cases h with
    | lst h1 h2 => exact .lst (e.rdl h1) (RpA.gr e h2)
  | .tuple ds, _, h => by
    cases h with
    | tup h1 h2 => exact .tup (e.sqT h1) (RpA.gr e h2)
  | .dict [], _, h => by cases h
  | .dict ((m1, m2) :: ds), _, h => by
    cases h with
    | dctK h1 h2 => exact .dctK (e.rd h1) (RpK.gr e h2)
    | dctN h1 h2 h3 => exact .dctN (e _ _ h1) h2 (RpN.gr e h3)
    | exc0 h1 h2 => exact .exc0 (e _ _ h1) h2
    | exc1 h1 h2 h3 h4 => exact .exc1 (e _ _ h1) h2 (e _ _ h3) (Rp.gr e h4)
theorem RpA.gr (e : Gr H H') : ∀ {ds : List D} {vs : List V}, RpA c H vs ds → RpA c H' vs ds
  | [], _, h => by cases h; exact .nil
  | d :: ds, _, h => by
    cases h with
    | cons h1 h2 => exact .cons (Rp.gr e h1) (RpA.gr e h2)
theorem RpK.gr (e : Gr H H') : ∀ {ds : List (D × D)} {vs : List (Key × V)}, RpK c H vs ds → RpK c H' vs ds
  | [], _, h => by cases h; exact .nil
  | (d, d') :: ds, _, h => by
    cases h with
    | cons h1 h2 => exact .cons (Rp.gr e h1) (RpK.gr e h2)
theorem RpN.gr (e : Gr H H') : ∀ {ds : List (D × D)} {vs : List (NestedKey × Addr × V)}, RpN c H vs ds → RpN c H' vs ds
  | [], _, h => by cases h; exact .nil
  | (d, d') :: ds, _, h => by
    cases h with
    | cons h1 h2 h3 h4 => exact .cons (Rp.gr e h1) h2 (Rp.gr e h3) (RpN.gr e h4)
end
/-- no tuple -/
def NotT (o : Option HO) : Prop := ∀ xs, o ≠ some (.tup xs) ∧ ∀ ob, o ≠ some (.frz ob (.tup xs))
/- nothing that may change within -/
mutual
def imm : D → Bool
  | .list _ => false
  | .dict _ => false
  | .tuple ds => immA ds
  | .none => true
  | .bool _ => true
  | .int _ => true
  | .str _ => true
def immA : List D → Bool
  | [] => true
  | d :: ds => imm d && immA ds
end
/- what can't change needs no list, no dict -/
mutual
theorem Rp.un {Z Z' : Addr → Prop} (h : ∀ a, Z' a → Z a ∨ NotT (H a)) : ∀ {d : D} {v : V}, imm d = true → Rp c (hid H Z) v d → Rp c (hid H Z') v d
  | .none, _, _, r => by cases r; exact .non
  | .bool b, _, _, r => by cases r; exact .bl b
  | .int i, _, _, r => by cases r; exact .int i
  | .str x, _, _, r => by cases r; exact .str x
  | .list ds, _, i, r => by simp [imm] at i
  | .dict ds, _, i, r => by simp [imm] at i
  | .tuple ds, _, i, r => by
    cases r with
    | @tup a xs _ h1 h2 =>
      refine .tup ?_ (RpA.un h (by simpa [imm] using i) h2)
      have key : ∀ o, ¬ NotT (some o) → hid H Z a = some o → hid H Z' a = some o := fun o ho q => by
        obtain ⟨z, q⟩ := hid_some q
        rw [hid_no fun y => (h a y).elim z fun w => ho (by rw [← q]; exact w)]
        exact q
      rcases h1 with (q | ⟨o, q⟩) | q
      · exact .inl (.inl (key _ (fun w => (w xs).1 rfl) q))
      · exact .inl (.inr ⟨o, key _ (fun w => (w xs).2 o rfl) q⟩)
      · exact .inr q
theorem RpA.un {Z Z' : Addr → Prop} (h : ∀ a, Z' a → Z a ∨ NotT (H a)) : ∀ {ds : List D} {vs : List V}, immA ds = true → RpA c (hid H Z) vs ds → RpA c (hid H Z') vs ds
  | [], _, _, r => by cases r; exact .nil
  | d :: ds, _, i, r => by
    rw [immA, Bool.and_eq_true] at i
    cases r with
    | cons h1 h2 => exact .cons (Rp.un h i.1 h1) (RpA.un h i.2 h2)
end
theorem RpA.length : ∀ {ds : List D} {vs : List V}, RpA c H vs ds → vs.length = ds.length
  | [], _, h => by cases h; rfl
  | d :: ds, _, h => by
    cases h with
    | cons h1 h2 => simp [RpA.length h2]
theorem RpA.get : ∀ {ds : List D} {vs : List V} {i : Nat} {d : D}, RpA c H vs ds → ds[i]? = some d → ∃ v, vs[i]? = some v ∧ Rp c H v d
  | [], _, i, d, h, e => by simp at e
  | x :: ds, _, i, d, h, e => by
    cases h with
    | cons h1 h2 =>
      cases i with
      | zero => simp at e; subst e; exact ⟨_, rfl, h1⟩
      | succ i =>
        obtain ⟨v, q, r⟩ := RpA.get (i := i) h2 (by simpa using e)
        exact ⟨v, by simpa using q, r⟩
theorem RpA.got : ∀ {ds : List D} {vs : List V} {i : Nat} {v : V}, RpA c H vs ds → vs[i]? = some v → ∃ d, ds[i]? = some d ∧ Rp c H v d
  | [], _, i, v, h, e => by cases h; simp at e
  | x :: ds, _, i, v, h, e => by
    cases h with
    | cons h1 h2 =>
      cases i with
      | zero => simp at e; subst e; exact ⟨_, rfl, h1⟩
      | succ i =>
        obtain ⟨d, q, r⟩ := RpA.got (i := i) h2 (by simpa using e)
        exact ⟨d, by simpa using q, r⟩
theorem RpA.append : ∀ {ds es : List D} {vs ws : List V}, RpA c H vs ds → RpA c H ws es → RpA c H (vs ++ ws) (ds ++ es)
  | [], _, _, _, h, g => by cases h; exact g
  | d :: ds, _, _, _, h, g => by
    cases h with
    | cons h1 h2 => exact .cons h1 (RpA.append h2 g)
theorem RpA.take : ∀ {ds : List D} {vs : List V} (n : Nat), RpA c H vs ds → RpA c H (vs.take n) (ds.take n)
  | ds, _, 0, h => by simp; exact .nil
  | [], _, n + 1, h => by cases h; exact .nil
  | d :: ds, _, n + 1, h => by
    cases h with
    | cons h1 h2 => exact .cons h1 (RpA.take n h2)
theorem RpA.drop : ∀ {ds : List D} {vs : List V} (n : Nat), RpA c H vs ds → RpA c H (vs.drop n) (ds.drop n)
  | ds, _, 0, h => h
  | [], _, n + 1, h => by cases h; exact .nil
  | d :: ds, _, n + 1, h => by
    cases h with
    | cons h1 h2 => exact RpA.drop n h2
theorem RpA.one {v : V} {d : D} (h : Rp c H v d) : RpA c H [v] [d] := .cons h .nil
theorem RpA.rep {vs : List V} {ds : List D} (h : RpA c H vs ds) : ∀ n, RpA c H (List.replicate n vs).flatten (List.replicate n ds).flatten
  | 0 => .nil
  | n + 1 => by
    rw [List.replicate_succ, List.flatten_cons, List.replicate_succ, List.flatten_cons]
    exact RpA.append h (RpA.rep h n)
end
/- to the library data (no dicts) -/
mutual
def nodict : D → Bool
  | .list ds => nodictA ds
  | .dict _ => false
  | .tuple ds => nodictA ds
  | .none => true
  | .bool _ => true
  | .int _ => true
  | .str _ => true
def nodictA : List D → Bool
  | [] => true
  | d :: ds => nodict d && nodictA ds
end
section
variable {c : Cz} {H : Hp}
mutual
theorem Rp.dp : ∀ {d : D} {v : V}, nodict d = true → Rp c H v d → Dp c.K H v d
  | .none, _, _, r => by cases r; exact .non
  | .bool b, _, _, r => by cases r; exact .bl b
  | .int i, _, _, r => by cases r; exact .int i
  | .str x, _, _, r => by cases r; exact .str x
  | .list ds, _, i, r => by
    cases r with
    | lst h1 h2 => exact .lst h1.sq (RpA.dp (by simpa [nodict] using i) h2)
  | .dict ds, _, i, r => by simp [nodict] at i
  | .tuple ds, _, i, r => by
    cases r with
    | tup h1 h2 => exact .tup h1 (RpA.dp (by simpa [nodict] using i) h2)
theorem RpA.dp : ∀ {ds : List D} {vs : List V}, nodictA ds = true → RpA c H vs ds → DpAll c.K H vs ds
  | [], _, _, r => by cases r; exact .nil
  | d :: ds, _, i, r => by
    rw [nodictA, Bool.and_eq_true] at i
    cases r with
    | cons h1 h2 => exact .cons (Rp.dp i.1 h1) (RpA.dp i.2 h2)
end
end
end Bv

namespace Bv
open PySem PySem.Spec L2 PyProof.Rows

/-! ### results -/
/-- an error: its class's name, its fields -/
structure Xc where
  cls : Str
  pay : List (Str × D)
inductive Rv (A : Type) where
  | un | ok (a : A) | xc (x : Xc)
def Rv.bind {A B : Type} (r : Rv A) (f : A → Rv B) : Rv B := match r with | .un => .un | .ok a => f a | .xc x => .xc x
@[simp] theorem Rv.bind_ok {A B : Type} (a : A) (f : A → Rv B) : (Rv.ok a).bind f = f a := rfl
@[simp] theorem Rv.bind_un {A B : Type} (f : A → Rv B) : (Rv.un : Rv A).bind f = .un := rfl
@[simp] theorem Rv.bind_xc {A B : Type} (x : Xc) (f : A → Rv B) : (Rv.xc x).bind f = .xc x := rfl

abbrev Vw := List (Option D)
def Vok (c : Cz) (H : Hp) (η : Vw) (σ : L2.St) : Prop := η.length ≤ σ.length ∧ ∀ (i : Nat) (d : D), η[i]? = some (some d) → ∃ v : V, σ[i]? = some (some v) ∧ Rp c H v d
theorem Vok.gr {c : Cz} {H H' : Hp} {η : Vw} {σ : L2.St} (e : Gr H H') (h : Vok c H η σ) : Vok c H' η σ := ⟨h.1, fun i d q =>
  let ⟨v, e1, r⟩ := h.2 i d q; ⟨v, e1, r.gr e⟩⟩
/-- an error's class and its own dict, as they stand -/
def XcR (c : Cz) (mg : Str → Option Value) (H : Hp) (x : Xc) (cls : Value) (dx : Option Addr) : Prop :=
  ∃ C, mg x.cls = some (.ref C) ∧ cls = .ref C ∧ (x.pay = [] → dx = none) ∧ ∀ f d r, x.pay = (f, d) :: r → ∃ a v, dx = some a ∧ H a = some (.xd [(f, v)]) ∧ Rp c H v d
theorem XcR.gr {c : Cz} {mg : Str → Option Value} {H H' : Hp} {x : Xc} {cls : Value} {dx : Option Addr} (e : Gr H H') (h : XcR c mg H x cls dx) : XcR c mg H' x cls dx := by
  obtain ⟨C, h1, h2, h3, h4⟩ := h
  exact ⟨C, h1, h2, h3, fun f d r q => let ⟨a, v, p1, p2, p3⟩ := h4 f d r q; ⟨a, v, p1, e _ _ p2, p3.gr e⟩⟩

/-- what a text's parts may use: the world, the room, the names, the scope, what is wished of errors; df: a def's own body (no block of it) -/
structure Wd where
  P : Program
  w : World
  K : PySem.W.Frag
  mg : Str → Option Value
  base : Heap
abbrev Wd.c (T : Wd) : Cz := ⟨T.P, T.w, T.K, T.mg⟩
structure Sx extends Wd where
  k : Nat
  N : List Str
  sc : Scope
  W : WX
  df : Bool
  st : Str → Bool
  tr : Nat
abbrev Sx.c (S : Sx) : Cz := S.toWd.c
/-- .. and where it is so -/
structure Sx.At (S : Sx) (X : Cx) : Prop where
  hP : X.prog = S.P
  hw : X.w = S.w
  hK : X.K = S.K
  hmg : X.mg = S.mg
  hb : X.base = S.base
  hN : X.N = S.N
  hsc : X.env.scope = S.sc
  nd : X.N.Nodup
  calm : X.calm = true
  gd : X.A.guards = some []
  hr : Room S.k X.A
  tk : Takes X S.W
  fnl : ∀ x, L2.Loc S.sc x → S.st x = true → X.fn x = true ∨ X.env.scope.names.lookup x = some .local
  pass : S.df = true → PassesOwn (model X.prog X.w) X.A X.env X.xe
  body : S.df = true → X.stack = X.env :: X.outer ∧ X.env.frame = some X.env.locals ∧ X.ex = []
theorem Sx.At.units {S : Sx} {X : Cx} (h : S.At X) : X.A.units + 65 < cLine := by have := h.hr.un; omega

def Post {A B : Type} (S : Sx) (R : Hp → A → B → Prop) (σ : L2.St) (Z : Addr → Prop) (H : Hp) (Q : A → Hp → Prop) : Rv B → Prop
  | .un => False
  | .ok d => ∀ v H', Gr H H' → R (hid H' Z) v d → Q v H'
  | .xc x => ∀ cls dx H', Gr H H' → XcR S.c S.mg (hid H' Z) x cls dx → S.W cls dx σ H'
theorem Post.gr {A B : Type} {S : Sx} {R : Hp → A → B → Prop} {σ : L2.St} {Z : Addr → Prop} {H H1 : Hp} {Q : A → Hp → Prop} (e : Gr H H1) : ∀ {r : Rv B}, Post S R σ Z H Q r → Post S R σ Z H1 Q r
  | .un, h => h
  | .ok _, h => fun v H' e' r => h v H' (e.trans e') r
  | .xc _, h => fun cls dx H' e' r => h cls dx H' (e.trans e') r
/-- the first part, then the second -/
theorem Post.bind {A B A' B' : Type} {S : Sx} {R : Hp → A → B → Prop} {R' : Hp → A' → B' → Prop} {σ : L2.St} {Z : Addr → Prop} {H : Hp} {Q : A' → Hp → Prop} {T : A → Hp → Prop} {r : Rv B} {f : B → Rv B'}
    (h : Post S R' σ Z H Q (r.bind f)) (k : ∀ b v H', r = .ok b → Gr H H' → R (hid H' Z) v b → Post S R' σ Z H' Q (f b) → T v H') : Post S R σ Z H T r := by
  cases r with
  | un => exact h
  | xc x => exact h
  | ok b => exact fun v H' e q => k b v H' rfl e q (h.gr e)
theorem Post.ok {A B : Type} {S : Sx} {R : Hp → A → B → Prop} {σ : L2.St} {Z : Addr → Prop} {H : Hp} {Q : A → Hp → Prop} {v : A} {d : B} (h : Post S R σ Z H Q (.ok d)) (r : R (hid H Z) v d) : Q v H := h v H (Gr.refl H) r

abbrev RE (S : Sx) : Hp → V → D → Prop := Rp S.c
abbrev RA (S : Sx) : Hp → List V → List D → Prop := RpA S.c
abbrev RT : Hp → Bool → Bool → Prop := fun _ b k => b = k
abbrev RO : Hp → Option Int → Option Int → Prop := fun _ b k => b = k
abbrev RF (S : Sx) : Hp → Addr × List V → List D → Prop := fun H p ds => RpA S.c H p.2 ds
/-- a reading tells f -/
abbrev Tells {A B : Type} (S : Sx) (R : Hp → A → B → Prop) (t : L2.St → Hp → (A → Hp → Prop) → Prop) (f : Vw → Rv B) : Prop :=
  ∀ η σ H Z Q, In Z H → Vok S.c (hid H Z) η σ → Post S R σ Z H Q (f η) → t σ H Q
/-- .. that ends in a new list -/
abbrev TellsF (S : Sx) (t : TE) (f : Vw → Rv (List D)) : Prop :=
  ∀ η σ H Z Q, In Z H → Vok S.c (hid H Z) η σ → Post S (RF S) σ Z H (fun p H' => H' p.1 = none → Q (.ref p.1) (upd H' p.1 (.lst p.2))) (f η) → t σ H Q

structure SemE (S : Sx) (e : Expr) (f : Vw → Rv D) : Prop where
  ex : ∃ t, (∀ X, S.At X → PE X e t) ∧ Tells S (RE S) t f
structure SemT (S : Sx) (e : Expr) (f : Vw → Rv Bool) : Prop where
  ex : ∃ t, (∀ X, S.At X → PT X e t) ∧ Tells S RT t f
structure SemW (S : Sx) (e : Expr) (f : Vw → Rv Bool) : Prop where
  ex : ∃ t, (∀ X, S.At X → PW X e t) ∧ Tells S RT t f
structure SemA (S : Sx) (es : List Expr) (f : Vw → Rv (List D)) : Prop where
  ex : ∃ t, (∀ X, S.At X → PA X es t) ∧ Tells S (RA S) t f
structure SemO (S : Sx) (e : Option Expr) (f : Vw → Rv (Option Int)) : Prop where
  ex : ∃ t, (∀ X, S.At X → PO X e t) ∧ Tells S RO t f
/-- a new list -/
structure SemF (S : Sx) (e : Expr) (f : Vw → Rv (List D)) : Prop where
  ex : ∃ t, (∀ X, S.At X → PE X e t) ∧ TellsF S t f

section
variable {S : Sx}
def cst (d : D) (_ : Vw) : Rv D := .ok d
def var (i : Nat) (η : Vw) : Rv D := match η[i]? with | some (some d) => .ok d | _ => .un
def bi2 (g : D → D → Rv D) (fa fb : Vw → Rv D) (η : Vw) : Rv D := (fa η).bind fun a => (fb η).bind fun b => g a b
def una (g : D → Rv D) (fa : Vw → Rv D) (η : Vw) : Rv D := (fa η).bind g

theorem pe_no {X : Cx} {e : Expr} : PE X e (fun _ _ _ => False) := ⟨fun _ _ _ _ _ _ h => h.elim⟩
theorem pt_no {X : Cx} {e : Expr} : PT X e (fun _ _ _ => False) := ⟨fun _ _ _ _ _ _ h => h.elim⟩
theorem se_un {e : Expr} : SemE S e (fun _ => .un) := ⟨⟨fun _ _ _ => False, fun _ _ => pe_no, fun _ _ _ _ _ _ _ h => h⟩⟩
theorem st_un {e : Expr} : SemT S e (fun _ => .un) := ⟨⟨fun _ _ _ => False, fun _ _ => pt_no, fun _ _ _ _ _ _ _ h => h⟩⟩
theorem se_var (i : Nat) {x : Str} {pos : Pos} (hN : S.N[i]? = some x := by rfl) (hv : Vis S.sc x := by first | exact Or.inl rfl | exact Or.inr (Or.inl rfl) | exact Or.inr (Or.inr rfl)) (hd : (x == ("__debug__" : Str)) = false := by decide)
    (hcd : (x == ("__classdict__" : Str)) = false := by decide) : SemE S (.Name x pos) (var i) := by
  refine ⟨⟨_, fun X hX => pe_var (by rw [hX.hN]; exact hN) (by rw [hX.hsc]; exact hv) hd hcd, fun η σ H Z Q z hη h => ?_⟩⟩
  unfold var at h
  split at h
  · rename_i d e
    obtain ⟨v, e1, r⟩ := hη.2 i d e
    exact ⟨v, e1, h.ok r⟩
  · exact h.elim
theorem se_int {i : Int} {j} {pos : Pos} : SemE S (.Constant (.int i) j pos) (cst (.int i)) := ⟨⟨_, fun _ _ => pe_int, fun _ _ _ _ _ _ _ h => Post.ok h (.int i)⟩⟩
theorem se_bl {b : Bool} {j} {pos : Pos} : SemE S (.Constant (.bool b) j pos) (cst (.bool b)) := ⟨⟨_, fun _ _ => pe_bl, fun _ _ _ _ _ _ _ h => Post.ok h (.bl b)⟩⟩
theorem se_non {j} {pos : Pos} : SemE S (.Constant .none j pos) (cst .none) := ⟨⟨_, fun _ _ => pe_non, fun _ _ _ _ _ _ _ h => Post.ok h .non⟩⟩
theorem se_str {x : Str} {j} {pos : Pos} : SemE S (.Constant (.str x) j pos) (cst (.str x)) := ⟨⟨_, fun _ _ => pe_str, fun _ _ _ _ _ _ _ h => Post.ok h (.str x)⟩⟩

/-- what a two-place operation on values is on data -/
def Op2 (S : Sx) (r : R2) (g : D → D → Rv D) : Prop :=
  ∀ x y a b H Z Q σ, In Z H → Rp S.c (hid H Z) x a → Rp S.c (hid H Z) y b → Post S (RE S) σ Z H Q (g a b) → r x y H Q
theorem bin_run {ta tb : TE} {fa fb : Vw → Rv D} {r : R2} {g : D → D → Rv D} (hr : Op2 S r g) (ha : Tells S (RE S) ta fa) (hb : Tells S (RE S) tb fb) : Tells S (RE S) (tOp r ta tb) (bi2 g fa fb) := by
  intro η σ H Z Q z hη h
  refine ha η σ H Z _ z hη (Post.bind h fun a x H1 _ e1 r1 h1 => ?_)
  refine hb η σ H1 Z _ (z.gr e1) (hη.gr (e1.hid Z)) (Post.bind h1 fun b y H2 _ e2 r2 h2 => ?_)
  exact hr x y a b H2 Z Q σ ((z.gr e1).gr e2) (r1.gr (e2.hid Z)) r2 h2
theorem se_op {op : Operator} {r : R2} {g : D → D → Rv D} {a b : Expr} {fa fb : Vw → Rv D} {pos : Pos} (ho : ∀ X, S.At X → OpR X (binaryOp op) r) (hr : Op2 S r g) (ha : SemE S a fa) (hb : SemE S b fb) : SemE S (.BinOp a op b pos) (bi2 g fa fb) := by
  obtain ⟨ta, pa, qa⟩ := ha.ex
  obtain ⟨tb, pb, qb⟩ := hb.ex
  exact ⟨⟨_, fun X hX => pe_op (ho X hX) (pa X hX) (pb X hX), bin_run hr qa qb⟩⟩
theorem se_cmp {op : CmpOp} {r : R2} {g : D → D → Rv D} {a b : Expr} {fa fb : Vw → Rv D} {pos : Pos} (ho : ∀ X, S.At X → OpR X (compareOp op) r) (hr : Op2 S r g) (ha : SemE S a fa) (hb : SemE S b fb) (hm : behindInMarks op b = false) : SemE S (.Compare a [op] [b] pos) (bi2 g fa fb) := by
  obtain ⟨ta, pa, qa⟩ := ha.ex
  obtain ⟨tb, pb, qb⟩ := hb.ex
  exact ⟨⟨_, fun X hX => pe_cmpR (ho X hX) (pa X hX) (pb X hX) hm, bin_run hr qa qb⟩⟩
def asB (f : Vw → Rv D) (η : Vw) : Rv Bool := (f η).bind fun d => match d with | .bool b => .ok b | _ => .un
theorem asB_run {t : TE} {f : Vw → Rv D} (h : Tells S (RE S) t f) : Tells S RT (fun σ H Q => t σ H fun x H' => ∃ k, x = .bl k ∧ Q k H') (asB f) := by
  intro η σ H Z Q z hη hq
  refine h η σ H Z _ z hη (Post.bind hq fun d x H1 _ e1 r1 h1 => ?_)
  cases r1 with
  | bl b => exact ⟨b, rfl, Post.ok (R := RT) h1 rfl⟩
  | _ => exact h1.elim
theorem st_cmp {op : CmpOp} {r : R2} {g : D → D → Rv D} {a b : Expr} {fa fb : Vw → Rv D} {pos : Pos} (ho : ∀ X, S.At X → OpR X (compareOp op) r) (hr : Op2 S r g) (ha : SemE S a fa) (hb : SemE S b fb) (hm : behindInMarks op b = false) : SemT S (.Compare a [op] [b] pos) (asB (bi2 g fa fb)) := by
  obtain ⟨ta, pa, qa⟩ := ha.ex
  obtain ⟨tb, pb, qb⟩ := hb.ex
  exact ⟨⟨_, fun X hX => pt_cmpR (ho X hX) (pa X hX) (pb X hX) hm, asB_run (bin_run hr qa qb)⟩⟩
/-- an expression that gives a truth, as a test -/
theorem st_val {e : Expr} {f : Vw → Rv D} (h : SemE S e f) (he : ∀ env whole, isTrue e env whole = (do let v ← whole; standAt e.pos; holding [v] (truthy v)) := by intro _ _; rfl) : SemT S e (asB f) := by
  obtain ⟨t, p, q⟩ := h.ex
  exact ⟨⟨_, fun X hX => pt_val (p X hX) (he _), asB_run q⟩⟩
def tand (f g : Vw → Rv Bool) (η : Vw) : Rv Bool := (f η).bind fun b => if b = true then g η else .ok false
def tor (f g : Vw → Rv Bool) (η : Vw) : Rv Bool := (f η).bind fun b => if b = true then .ok true else g η
def tnot (f : Vw → Rv Bool) (η : Vw) : Rv Bool := (f η).bind fun b => .ok (!b)
theorem st_w {e : Expr} {f : Vw → Rv Bool} (h : SemW S e f) : SemT S e f := let ⟨t, p, q⟩ := h.ex; ⟨⟨t, fun X hX => (p X hX).pt, q⟩⟩
theorem sw_and1 {a : Expr} {pos : Pos} {f : Vw → Rv Bool} (h : SemT S a f) : SemW S (.BoolOp .And [a] pos) f := let ⟨t, p, q⟩ := h.ex; ⟨⟨t, fun X hX => pw_and1 (p X hX), q⟩⟩
theorem sw_or1 {a : Expr} {pos : Pos} {f : Vw → Rv Bool} (h : SemT S a f) : SemW S (.BoolOp .Or [a] pos) f := let ⟨t, p, q⟩ := h.ex; ⟨⟨t, fun X hX => pw_or1 (p X hX), q⟩⟩
theorem sw_and {a b : Expr} {rest : List Expr} {pos : Pos} {f g : Vw → Rv Bool} (h : SemT S a f) (h2 : SemW S (.BoolOp .And (b :: rest) pos) g) : SemW S (.BoolOp .And (a :: b :: rest) pos) (tand f g) := by
  obtain ⟨t, p, q⟩ := h.ex
  obtain ⟨t2, p2, q2⟩ := h2.ex
  refine ⟨⟨_, fun X hX => pw_and (p X hX) (p2 X hX), fun η σ H Z Q z hη h => ?_⟩⟩
  refine q η σ H Z _ z hη (Post.bind h fun b v H1 _ e1 r1 h1 => ?_)
  cases (show v = b from r1)
  cases b with
  | true => exact q2 η σ H1 Z Q (z.gr e1) (hη.gr (e1.hid Z)) h1
  | false => exact Post.ok (R := RT) h1 rfl
theorem sw_or {a b : Expr} {rest : List Expr} {pos : Pos} {f g : Vw → Rv Bool} (h : SemT S a f) (h2 : SemW S (.BoolOp .Or (b :: rest) pos) g) : SemW S (.BoolOp .Or (a :: b :: rest) pos) (tor f g) := by
  obtain ⟨t, p, q⟩ := h.ex
  obtain ⟨t2, p2, q2⟩ := h2.ex
  refine ⟨⟨_, fun X hX => pw_or (p X hX) (p2 X hX), fun η σ H Z Q z hη h => ?_⟩⟩
  refine q η σ H Z _ z hη (Post.bind h fun b v H1 _ e1 r1 h1 => ?_)
  cases (show v = b from r1)
  cases b with
  | false => exact q2 η σ H1 Z Q (z.gr e1) (hη.gr (e1.hid Z)) h1
  | true => exact Post.ok (R := RT) h1 rfl
theorem st_not {a : Expr} {pos : Pos} {f : Vw → Rv Bool} (h : SemT S a f) : SemT S (.UnaryOp .Not a pos) (tnot f) := by
  obtain ⟨t, p, q⟩ := h.ex
  refine ⟨⟨_, fun X hX => pt_not (p X hX), fun η σ H Z Q z hη h => ?_⟩⟩
  refine q η σ H Z _ z hη (Post.bind h fun b v H1 _ e1 r1 h1 => ?_)
  cases (show v = b from r1)
  exact Post.ok (R := RT) h1 rfl
/-- .. as values -/
def vand (f g : Vw → Rv D) (η : Vw) : Rv D := (asB f η).bind fun b => if b = true then g η else .ok (.bool false)
def vor (f g : Vw → Rv D) (η : Vw) : Rv D := (asB f η).bind fun b => if b = true then .ok (.bool true) else g η
def vnot (f : Vw → Rv D) (η : Vw) : Rv D := (asB f η).bind fun b => .ok (.bool !b)
theorem se_one {a : Expr} {op} {pos : Pos} {f : Vw → Rv D} (h : SemE S a f) : SemE S (.BoolOp op [a] pos) f := let ⟨t, p, q⟩ := h.ex; ⟨⟨t, fun X hX => pe_one (p X hX), q⟩⟩
theorem se_and {a b : Expr} {rest : List Expr} {pos : Pos} {f g : Vw → Rv D} (h : SemE S a f) (h2 : SemE S (.BoolOp .And (b :: rest) pos) g) : SemE S (.BoolOp .And (a :: b :: rest) pos) (vand f g) := by
  obtain ⟨t, p, q⟩ := h.ex
  obtain ⟨t2, p2, q2⟩ := h2.ex
  refine ⟨⟨_, fun X hX => pe_and (p X hX) (p2 X hX), fun η σ H Z Q z hη h => ?_⟩⟩
  refine asB_run q η σ H Z _ z hη (Post.bind h fun b v H1 _ e1 r1 h1 => ?_)
  cases (show v = b from r1)
  cases b with
  | true => exact q2 η σ H1 Z Q (z.gr e1) (hη.gr (e1.hid Z)) h1
  | false => exact Post.ok (R := RE S) h1 (.bl false)
theorem se_or {a b : Expr} {rest : List Expr} {pos : Pos} {f g : Vw → Rv D} (h : SemE S a f) (h2 : SemE S (.BoolOp .Or (b :: rest) pos) g) : SemE S (.BoolOp .Or (a :: b :: rest) pos) (vor f g) := by
  obtain ⟨t, p, q⟩ := h.ex
  obtain ⟨t2, p2, q2⟩ := h2.ex
  refine ⟨⟨_, fun X hX => pe_or (p X hX) (p2 X hX), fun η σ H Z Q z hη h => ?_⟩⟩
  refine asB_run q η σ H Z _ z hη (Post.bind h fun b v H1 _ e1 r1 h1 => ?_)
  cases (show v = b from r1)
  cases b with
  | false => exact q2 η σ H1 Z Q (z.gr e1) (hη.gr (e1.hid Z)) h1
  | true => exact Post.ok (R := RE S) h1 (.bl true)
theorem se_not {a : Expr} {pos : Pos} {f : Vw → Rv D} (h : SemE S a f) : SemE S (.UnaryOp .Not a pos) (vnot f) := by
  obtain ⟨t, p, q⟩ := h.ex
  refine ⟨⟨_, fun X hX => pe_not (p X hX), fun η σ H Z Q z hη h => ?_⟩⟩
  refine asB_run q η σ H Z _ z hη (Post.bind h fun b v H1 _ e1 r1 h1 => ?_)
  cases (show v = b from r1)
  exact Post.ok (R := RE S) h1 (.bl !b)
def ifx (c : Vw → Rv Bool) (f g : Vw → Rv D) (η : Vw) : Rv D := (c η).bind fun b => if b = true then f η else g η
theorem se_if {c a b : Expr} {pos : Pos} {fc : Vw → Rv Bool} {f g : Vw → Rv D} (hc : SemT S c fc) (h : SemE S a f) (h2 : SemE S b g) : SemE S (.IfExp c a b pos) (ifx fc f g) := by
  obtain ⟨t, p, q⟩ := hc.ex
  obtain ⟨t1, p1, q1⟩ := h.ex
  obtain ⟨t2, p2, q2⟩ := h2.ex
  refine ⟨⟨_, fun X hX => pe_ifExp (p X hX) (p1 X hX) (p2 X hX), fun η σ H Z Q z hη h => ?_⟩⟩
  refine q η σ H Z _ z hη (Post.bind h fun b v H1 _ e1 r1 h1 => ?_)
  cases (show v = b from r1)
  cases b with
  | true => exact q1 η σ H1 Z Q (z.gr e1) (hη.gr (e1.hid Z)) h1
  | false => exact q2 η σ H1 Z Q (z.gr e1) (hη.gr (e1.hid Z)) h1

/-! ### argument lists, displays -/
def anil (_ : Vw) : Rv (List D) := .ok []
def acons (f : Vw → Rv D) (g : Vw → Rv (List D)) (η : Vw) : Rv (List D) := (f η).bind fun a => (g η).bind fun b => .ok (a :: b)
theorem sa_nil : SemA S [] anil := ⟨⟨_, fun _ _ => pa_nil, fun _ _ _ _ _ _ _ h => Post.ok (R := RA S) h .nil⟩⟩
theorem sa_cons {e : Expr} {es : List Expr} {f : Vw → Rv D} {g : Vw → Rv (List D)} (h : SemE S e f) (h2 : SemA S es g) (hs : ∀ env, starEach (e :: es) env = (false, eval e env) :: starEach es env := by intro _; rfl) : SemA S (e :: es) (acons f g) := by
  obtain ⟨t, p, q⟩ := h.ex
  obtain ⟨t2, p2, q2⟩ := h2.ex
  refine ⟨⟨_, fun X hX => pa_cons (p X hX) (p2 X hX) (hs _), fun η σ H Z Q z hη h => ?_⟩⟩
  refine q η σ H Z _ z hη (Post.bind h fun a x H1 _ e1 r1 h1 => ?_)
  refine q2 η σ H1 Z _ (z.gr e1) (hη.gr (e1.hid Z)) (Post.bind h1 fun b y H2 _ e2 r2 h2 => ?_)
  exact Post.ok (R := RA S) h2 (.cons (r1.gr (e2.hid Z)) r2)
theorem line_ge {n : Nat} (h : n ≤ 16000000) : n ≤ sizeLine := Nat.le_trans h (by decide)
theorem line_gt {n : Nat} (h : n < 16000000) : n < sizeLine := Nat.lt_of_lt_of_le h (by decide)
/-- a new tuple of what stands -/
theorem Post.newT {σ : L2.St} {Z : Addr → Prop} {H : Hp} {Q : VK} {xs : List V} {ds : List D} {p : Addr} (z : In Z H) (h : Post S (RE S) σ Z H Q (.ok (.tuple ds))) (r : RpA S.c (hid H Z) xs ds) (hp : H p = none) : Q (.ref p) (upd H p (.tup xs)) :=
  h _ _ (Gr.new hp) (.tup (.inl (.inl (hid_new z hp))) (RpA.gr ((Gr.new hp).hid Z) r))
theorem Post.newL {σ : L2.St} {Z : Addr → Prop} {H : Hp} {Q : VK} {xs : List V} {ds : List D} {p : Addr} (z : In Z H) (h : Post S (RE S) σ Z H Q (.ok (.list ds))) (r : RpA S.c (hid H Z) xs ds) (hp : H p = none) : Q (.ref p) (upd H p (.lst xs)) :=
  h _ _ (Gr.new hp) (.lst (.inl (.inl (hid_new z hp))) (RpA.gr ((Gr.new hp).hid Z) r))
def tupD (f : Vw → Rv (List D)) (η : Vw) : Rv D := (f η).bind fun ds => if ds.length ≤ 16000000 then .ok (.tuple ds) else .un
def lstF (f : Vw → Rv (List D)) (η : Vw) : Rv (List D) := (f η).bind fun ds => if ds.length ≤ 16000000 then .ok ds else .un
theorem se_tup {es : List Expr} {x1} {pos : Pos} {f : Vw → Rv (List D)} (h : SemA S es f) : SemE S (.Tuple es x1 pos) (tupD f) := by
  obtain ⟨t, p, q⟩ := h.ex
  refine ⟨⟨_, fun X hX => pe_tup (p X hX), fun η σ H Z Q z hη h => ?_⟩⟩
  refine q η σ H Z _ z hη (Post.bind h fun ds xs H1 _ e1 r1 h1 => ?_)
  have hl := RpA.length r1
  by_cases hd : ds.length ≤ 16000000
  · rw [if_pos hd] at h1
    exact ⟨line_ge (by omega), fun p hp => Post.newT (z.gr e1) h1 r1 hp⟩
  · rw [if_neg hd] at h1; exact h1.elim
theorem sf_lst {es : List Expr} {pos : Pos} {f : Vw → Rv (List D)} (h : SemA S es f) : SemF S (.List es pos) (lstF f) := by
  obtain ⟨t, p, q⟩ := h.ex
  refine ⟨⟨_, fun X hX => pe_lst (p X hX), fun η σ H Z Q z hη h => ?_⟩⟩
  refine q η σ H Z _ z hη (Post.bind h fun ds xs H1 _ e1 r1 h1 => ?_)
  have hl := RpA.length r1
  by_cases hd : ds.length ≤ 16000000
  · rw [if_pos hd] at h1
    exact ⟨line_ge (by omega), fun p hp => h1 (p, xs) H1 (Gr.refl _) r1 hp⟩
  · rw [if_neg hd] at h1; exact h1.elim
def lstD (f : Vw → Rv (List D)) (η : Vw) : Rv D := (f η).bind fun ds => .ok (.list ds)
/-- a new list, as any value -/
theorem TellsF.e {t : TE} {f : Vw → Rv (List D)} (q : TellsF S t f) : Tells S (RE S) t (lstD f) := by
  intro η σ H Z Q z hη h
  refine q η σ H Z Q z hη ?_
  unfold lstD at h
  cases hf : f η with
  | un => rw [hf] at h; exact h
  | xc x => rw [hf] at h; exact h
  | ok ds =>
    rw [hf] at h
    intro p H1 e1 r hp
    exact Post.newL (z.gr e1) (h.gr e1) r hp
theorem SemF.e {e : Expr} {f : Vw → Rv (List D)} (h : SemF S e f) : SemE S e (lstD f) := by
  obtain ⟨t, p, q⟩ := h.ex
  exact ⟨⟨t, p, TellsF.e q⟩⟩
end
end Bv

namespace Bv
open PySem PySem.Spec L2 PyProof.Rows
section
variable {X : Cx} {S : Sx}
theorem RdL.lst_at {pins : List (Addr × Obj)} {σ : L2.St} {H : Hp} {s : Shared} {a : Addr} {xs : List V} (I : Inv X pins σ H s) (h : RdL X.K H a xs) :
    ∃ (its : List Value) (n : Nat), Vals xs its ∧ s.heap.get? a = some { cls := .type "list", data := .seq its.toArray n } ∧ xs.length ≤ sizeLine := by
  rcases h with h | ⟨its, n, hk, r, z⟩
  · obtain ⟨z, its, n, r, e⟩ := h.ok I.hok
    exact ⟨its, n, r, e, z⟩
  · exact ⟨its, n, r, I.kIn a _ hk, z⟩
/-- list + list, however they are read -/
def rCatR (K : PySem.W.Frag) : R2 := fun x y H Q => ∃ l b xs zs, x = .ref l ∧ y = .ref b ∧ RdL K H l xs ∧ RdL K H b zs ∧ xs.length + zs.length ≤ sizeLine ∧ ∀ p, H p = none → Q (.ref p) (upd H p (.lst (xs ++ zs)))
theorem op_catR : OpR X (binaryOp .Add) (rCatR X.K) := by
  intro pins s σ H x y v u Q I rx ry h
  obtain ⟨l, b, xs, zs, rfl, rfl, hH, hB, hz, q⟩ := h
  cases rx
  cases ry
  obtain ⟨its, n, r, e, h1⟩ := RdL.lst_at I hH
  obtain ⟨its2, n2, r2, e2, h2⟩ := RdL.lst_at I hB
  have l1 := r.length
  have l2 := r2.length
  refine PySem.P.add_list e e2 ?_ (by rw [List.size_toArray, List.size_toArray]; omega)
  rw [show its.toArray ++ its2.toArray = (its ++ its2).toArray by simp]
  refine ⟨.ref _, _, I.laid (t' := s.toks) (o := .lst (xs ++ zs)) (fun b ob w => Heap.get?_push_of_some _ w) (Nat.le_refl _) ?_, rfl, q _ (I.hok.fresh (Nat.le_refl _))⟩
  exact ⟨by rw [List.length_append]; exact hz, _, _, r.append r2, Heap.get?_push_size _ rfl⟩

/-! ### + -/
def dAdd : D → D → Rv D
  | .int i, .int j => .ok (.int (i + j))
  | .str i, .str j => if i.length + j.length ≤ 16000000 then .ok (.str (i ++ j)) else .un
  | .list xs, .list ys => if xs.length + ys.length ≤ 16000000 then .ok (.list (xs ++ ys)) else .un
  | .tuple xs, .tuple ys => if xs.length + ys.length ≤ 16000000 then .ok (.tuple (xs ++ ys)) else .un
  | _, _ => .un
@[simp] theorem dAdd_ii (i j : Int) : dAdd (.int i) (.int j) = .ok (.int (i + j)) := rfl
@[simp] theorem dAdd_ss (i j : Str) : dAdd (.str i) (.str j) = if i.length + j.length ≤ 16000000 then .ok (.str (i ++ j)) else .un := rfl
@[simp] theorem dAdd_ll (i j : List D) : dAdd (.list i) (.list j) = if i.length + j.length ≤ 16000000 then .ok (.list (i ++ j)) else .un := rfl
@[simp] theorem dAdd_tt (i j : List D) : dAdd (.tuple i) (.tuple j) = if i.length + j.length ≤ 16000000 then .ok (.tuple (i ++ j)) else .un := rfl
def rAddAll (K : PySem.W.Frag) : R2 := fun x y H Q => (rI0 fun i j => .int (i + j)) x y H Q ∨ (∃ i j, x = .str i ∧ y = .str j ∧ i.length + j.length ≤ sizeLine ∧ Q (.str (i ++ j)) H) ∨ rCatR K x y H Q ∨ rCatA K x y H Q
theorem op_addAll : OpR X (binaryOp .Add) (rAddAll X.K) := op_add.or (op_add_str.or (op_catR.or op_catA))
theorem o2_add : Op2 S (rAddAll S.K) dAdd := by
  intro x y a b H Z Q σ z ra rb h
  cases ra with
  | int i =>
    cases rb with
    | int j => exact .inl ⟨i, j, rfl, rfl, Post.ok (R := RE S) h (.int _)⟩
    | _ => exact False.elim h
  | str i =>
    cases rb with
    | str j =>
      rw [dAdd_ss] at h
      split at h
      · rename_i hl
        exact .inr (.inl ⟨i, j, rfl, rfl, line_ge hl, Post.ok (R := RE S) h (.str _)⟩)
      · exact False.elim h
    | _ => exact False.elim h
  | lst h1 r1 =>
    cases rb with
    | lst h2 r2 =>
      rw [dAdd_ll] at h
      split at h
      · rename_i hl
        have e1 := RpA.length r1
        have e2 := RpA.length r2
        exact .inr (.inr (.inl ⟨_, _, _, _, rfl, rfl, (Gr.hid_le H Z).rdl h1, (Gr.hid_le H Z).rdl h2, line_ge (by omega), fun p hp => Post.newL z h (RpA.append r1 r2) hp⟩))
      · exact False.elim h
    | _ => exact False.elim h
  | @tup a1 xs ds h1 r1 =>
    cases rb with
    | @tup b1 ys es h2 r2 =>
      rw [dAdd_tt] at h
      split at h
      · rename_i hl
        have e1 := RpA.length r1
        have e2 := RpA.length r2
        refine .inr (.inr (.inr ⟨_, _, _, _, rfl, rfl, (Gr.hid_le H Z).sqT h1, (Gr.hid_le H Z).sqT h2, line_ge (by omega), fun q => ?_, fun _ q => ?_, fun _ _ p hp => Post.newT z h (RpA.append r1 r2) hp⟩))
        · subst q
          cases r1
          exact Post.ok (R := RE S) h (.tup h2 r2)
        · subst q
          cases r2
          rw [List.append_nil] at h
          exact Post.ok (R := RE S) h (.tup h1 r1)
      · exact False.elim h
    | _ => exact False.elim h
  | _ => exact False.elim h
theorem se_add {a b : Expr} {fa fb : Vw → Rv D} {pos : Pos} (ha : SemE S a fa) (hb : SemE S b fb) : SemE S (.BinOp a .Add b pos) (bi2 dAdd fa fb) := se_op (fun X hX => hX.hK ▸ op_addAll) o2_add ha hb

/-! ### - * // % ** of whole numbers -/
def dInt2 (c : Int → Int → Bool) (g : Int → Int → Int) : D → D → Rv D
  | .int i, .int j => if c i j = true then .ok (.int (g i j)) else .un
  | _, _ => .un
theorem dInt2_ii (c : Int → Int → Bool) (g : Int → Int → Int) (i j : Int) : dInt2 c g (.int i) (.int j) = if c i j = true then .ok (.int (g i j)) else .un := rfl
theorem o2_int {C : Int → Int → Prop} {c : Int → Int → Bool} {g : Int → Int → Int} (hc : ∀ i j, c i j = true → C i j) : Op2 S (rI C fun i j => .int (g i j)) (dInt2 c g) := by
  intro x y a b H Z Q σ z ra rb h
  cases ra with
  | int i =>
    cases rb with
    | int j =>
      rw [dInt2_ii] at h
      split at h
      · rename_i e
        exact ⟨i, j, rfl, rfl, hc i j e, Post.ok (R := RE S) h (.int _)⟩
      · exact False.elim h
    | _ => exact False.elim h
  | _ => exact False.elim h
def dSub : D → D → Rv D := dInt2 (fun _ _ => true) fun i j => i - j
@[simp] theorem dSub_ii (i j : Int) : dSub (.int i) (.int j) = .ok (.int (i - j)) := rfl
theorem rI_of0 {f : Value → Value → Sem Value} {g : Int → Int → V} (h : OpR X f (rI0 g)) : OpR X f (rI (fun _ _ => True) g) := fun pins s σ H x y v u Q I rx ry q => h pins s σ H x y v u Q I rx ry (let ⟨i, j, a, b, _, e⟩ := q; ⟨i, j, a, b, e⟩)
theorem se_sub {a b : Expr} {fa fb : Vw → Rv D} {pos : Pos} (ha : SemE S a fa) (hb : SemE S b fb) : SemE S (.BinOp a .Sub b pos) (bi2 dSub fa fb) := se_op (fun _ _ => rI_of0 op_sub) (o2_int fun _ _ _ => trivial) ha hb
def divOk (_ j : Int) : Bool := decide (0 < j ∧ j < 1073741824)
def dDiv : D → D → Rv D := dInt2 divOk fun i j => i / j
theorem dDiv_ii (i j : Int) : dDiv (.int i) (.int j) = if divOk i j = true then .ok (.int (i / j)) else .un := rfl
theorem se_div {a b : Expr} {fa fb : Vw → Rv D} {pos : Pos} (ha : SemE S a fa) (hb : SemE S b fb) : SemE S (.BinOp a .FloorDiv b pos) (bi2 dDiv fa fb) := se_op (fun _ _ => op_fdiv) (o2_int (c := divOk) fun i j e => (of_decide_eq_true e : 0 < j ∧ j < 1073741824)) ha hb
def modOk (_ j : Int) : Bool := decide (0 < j)
def dMod : D → D → Rv D := dInt2 modOk fun i j => i % j
theorem dMod_ii (i j : Int) : dMod (.int i) (.int j) = if modOk i j = true then .ok (.int (i % j)) else .un := rfl
theorem se_mod {a b : Expr} {fa fb : Vw → Rv D} {pos : Pos} (ha : SemE S a fa) (hb : SemE S b fb) : SemE S (.BinOp a .Mod b pos) (bi2 dMod fa fb) := se_op (fun _ _ => op_mod) (o2_int fun _ _ e => of_decide_eq_true e) ha hb
def powOk (i j : Int) : Bool := decide (0 ≤ j ∧ j ≤ 1000000 ∧ i.natAbs < 2 ^ 64)
def dPow : D → D → Rv D := dInt2 powOk fun i j => i ^ j.toNat
theorem dPow_ii (i j : Int) : dPow (.int i) (.int j) = if powOk i j = true then .ok (.int (i ^ j.toNat)) else .un := rfl
theorem se_pow {a b : Expr} {fa fb : Vw → Rv D} {pos : Pos} (ha : SemE S a fa) (hb : SemE S b fb) : SemE S (.BinOp a .Pow b pos) (bi2 dPow fa fb) := se_op (fun _ _ => op_pow) (o2_int (c := powOk) fun i j e => (of_decide_eq_true e : 0 ≤ j ∧ j ≤ 1000000 ∧ i.natAbs < 2 ^ 64)) ha hb
def dNeg : D → Rv D
  | .int i => .ok (.int (-i))
  | _ => .un
@[simp] theorem dNeg_i (i : Int) : dNeg (.int i) = .ok (.int (-i)) := rfl
theorem se_neg {a : Expr} {fa : Vw → Rv D} {pos : Pos} (ha : SemE S a fa) : SemE S (.UnaryOp .USub a pos) (una dNeg fa) := by
  obtain ⟨t, p, q⟩ := ha.ex
  refine ⟨⟨_, fun X hX => pe_un un_neg (p X hX), fun η σ H Z Q z hη h => ?_⟩⟩
  refine q η σ H Z _ z hη (Post.bind h fun d x H1 _ e1 r1 h1 => ?_)
  cases r1 with
  | int i => exact ⟨i, rfl, Post.ok (R := RE S) h1 (.int _)⟩
  | _ => exact False.elim h1

/-! ### comparisons -/
def dRel (p : Int → Int → Bool) : D → D → Rv D
  | .int i, .int j => .ok (.bool (p i j))
  | _, _ => .un
@[simp] theorem dRel_ii (p : Int → Int → Bool) (i j : Int) : dRel p (.int i) (.int j) = .ok (.bool (p i j)) := rfl
theorem o2_rel {p : Int → Int → Bool} : Op2 S (rI0 fun i j => .bl (p i j)) (dRel p) := by
  intro x y a b H Z Q σ z ra rb h
  cases ra with
  | int i =>
    cases rb with
    | int j => exact ⟨i, j, rfl, rfl, Post.ok (R := RE S) h (.bl _)⟩
    | _ => exact False.elim h
  | _ => exact False.elim h
abbrev dLt : D → D → Rv D := dRel fun i j => decide (i < j)
abbrev dLe : D → D → Rv D := dRel fun i j => decide (i ≤ j)
abbrev dGt : D → D → Rv D := dRel fun i j => decide (j < i)
abbrev dGe : D → D → Rv D := dRel fun i j => decide (j ≤ i)
/-- data that == looks through -/
def shp (d : D) : Bool := nodict d && SeqAt.shaped d
@[simp] theorem shp_int (i : Int) : shp (.int i) = true := by simp [shp, nodict, SeqAt.shaped, PyData.canLay0, PyData.depth]
def dEq : D → D → Rv D
  | .int i, .int j => .ok (.bool (decide (i = j)))
  | .str i, .str j => .ok (.bool (decide (i = j)))
  | a, b => if shp a = true ∧ shp b = true then .ok (.bool (PyData.eqv a b)) else .un
def dNe (a b : D) : Rv D := (dEq a b).bind fun d => match d with | .bool k => .ok (.bool !k) | _ => .un
@[simp] theorem dEq_ii (i j : Int) : dEq (.int i) (.int j) = .ok (.bool (decide (i = j))) := rfl
@[simp] theorem dEq_ss (i j : Str) : dEq (.str i) (.str j) = .ok (.bool (decide (i = j))) := rfl
@[simp] theorem dNe_ii (i j : Int) : dNe (.int i) (.int j) = .ok (.bool !(decide (i = j))) := rfl
@[simp] theorem dNe_ss (i j : Str) : dNe (.str i) (.str j) = .ok (.bool !(decide (i = j))) := rfl
theorem dEq_at (a b : D) : (∃ k, dEq a b = .ok (.bool k) ∧ shp a = true ∧ shp b = true ∧ PyData.eqv a b = k) ∨ (∃ x y, a = .str x ∧ b = .str y ∧ dEq a b = .ok (.bool (decide (x = y)))) ∨ dEq a b = .un := by
  unfold dEq
  split
  · exact .inl ⟨_, rfl, by simp, by simp, by rw [PyData.eqv, Bool.eq_iff_iff]; simp⟩
  · exact .inr (.inl ⟨_, _, rfl, rfl, rfl⟩)
  · split
    · rename_i h
      exact .inl ⟨_, rfl, h.1, h.2, rfl⟩
    · exact .inr (.inr rfl)
def rEqA (K : PySem.W.Frag) : R2 := fun x y H Q => rEqD K x y H Q ∨ rEq x y H Q
def rNeA (K : PySem.W.Frag) : R2 := fun x y H Q => rNeD K x y H Q ∨ rNe x y H Q
theorem op_eqA (hu : X.A.units + 64 < cLine) : OpR X (compareOp .Eq) (rEqA X.K) := (op_eqD hu).or op_eq
theorem op_neA (hu : X.A.units + 64 < cLine) : OpR X (compareOp .NotEq) (rNeA X.K) := (op_neD hu).or op_ne
theorem dec_strV {x y : Str} : decide (V.str x = V.str y) = decide (x = y) := by
  rw [Bool.eq_iff_iff]; simp
theorem o2_eq : Op2 S (rEqA S.K) dEq := by
  intro x y a b H Z Q σ z ra rb h
  rcases dEq_at a b with ⟨k, e, sa, sb, ek⟩ | ⟨i, j, rfl, rfl, e⟩ | e
  · rw [e] at h
    rw [shp, Bool.and_eq_true] at sa sb
    refine .inl ⟨a, b, (Rp.dp sa.1 (ra.gr (Gr.hid_le H Z))), (Rp.dp sb.1 (rb.gr (Gr.hid_le H Z))), sa.2, sb.2, ?_⟩
    rw [ek]
    exact Post.ok (R := RE S) h (.bl _)
  · cases ra
    cases rb
    rw [e] at h
    refine .inr ⟨rfl, ?_⟩
    rw [dec_strV]
    exact Post.ok (R := RE S) h (.bl _)
  · rw [e] at h; exact False.elim h
theorem o2_ne : Op2 S (rNeA S.K) dNe := by
  intro x y a b H Z Q σ z ra rb h
  unfold dNe at h
  rcases dEq_at a b with ⟨k, e, sa, sb, ek⟩ | ⟨i, j, rfl, rfl, e⟩ | e
  · rw [e] at h
    rw [shp, Bool.and_eq_true] at sa sb
    refine .inl ⟨a, b, (Rp.dp sa.1 (ra.gr (Gr.hid_le H Z))), (Rp.dp sb.1 (rb.gr (Gr.hid_le H Z))), sa.2, sb.2, ?_⟩
    rw [ek]
    exact Post.ok (R := RE S) h (.bl _)
  · cases ra
    cases rb
    rw [e] at h
    refine .inr ⟨rfl, ?_⟩
    rw [dec_strV]
    exact Post.ok (R := RE S) h (.bl _)
  · rw [e] at h; exact False.elim h
variable {a b c : Expr} {fa fb fc : Vw → Rv D} {pos : Pos}
theorem se_lt (ha : SemE S a fa) (hb : SemE S b fb) : SemE S (.Compare a [.Lt] [b] pos) (bi2 dLt fa fb) := se_cmp (fun _ _ => op_lt) o2_rel ha hb (nomark _)
theorem se_le (ha : SemE S a fa) (hb : SemE S b fb) : SemE S (.Compare a [.LtE] [b] pos) (bi2 dLe fa fb) := se_cmp (fun _ _ => op_le) o2_rel ha hb (nomark _)
theorem se_gt (ha : SemE S a fa) (hb : SemE S b fb) : SemE S (.Compare a [.Gt] [b] pos) (bi2 dGt fa fb) := se_cmp (fun _ _ => op_gt) o2_rel ha hb (nomark _)
theorem se_ge (ha : SemE S a fa) (hb : SemE S b fb) : SemE S (.Compare a [.GtE] [b] pos) (bi2 dGe fa fb) := se_cmp (fun _ _ => op_ge) o2_rel ha hb (nomark _)
theorem se_eq (ha : SemE S a fa) (hb : SemE S b fb) : SemE S (.Compare a [.Eq] [b] pos) (bi2 dEq fa fb) := se_cmp (fun X hX => hX.hK ▸ op_eqA (by have := hX.units; omega)) o2_eq ha hb (nomark _)
theorem se_ne (ha : SemE S a fa) (hb : SemE S b fb) : SemE S (.Compare a [.NotEq] [b] pos) (bi2 dNe fa fb) := se_cmp (fun X hX => hX.hK ▸ op_neA (by have := hX.units; omega)) o2_ne ha hb (nomark _)
theorem st_lt (ha : SemE S a fa) (hb : SemE S b fb) : SemT S (.Compare a [.Lt] [b] pos) (asB (bi2 dLt fa fb)) := st_cmp (fun _ _ => op_lt) o2_rel ha hb (nomark _)
theorem st_le (ha : SemE S a fa) (hb : SemE S b fb) : SemT S (.Compare a [.LtE] [b] pos) (asB (bi2 dLe fa fb)) := st_cmp (fun _ _ => op_le) o2_rel ha hb (nomark _)
theorem st_gt (ha : SemE S a fa) (hb : SemE S b fb) : SemT S (.Compare a [.Gt] [b] pos) (asB (bi2 dGt fa fb)) := st_cmp (fun _ _ => op_gt) o2_rel ha hb (nomark _)
theorem st_ge (ha : SemE S a fa) (hb : SemE S b fb) : SemT S (.Compare a [.GtE] [b] pos) (asB (bi2 dGe fa fb)) := st_cmp (fun _ _ => op_ge) o2_rel ha hb (nomark _)
theorem st_eq (ha : SemE S a fa) (hb : SemE S b fb) : SemT S (.Compare a [.Eq] [b] pos) (asB (bi2 dEq fa fb)) := st_cmp (fun X hX => hX.hK ▸ op_eqA (by have := hX.units; omega)) o2_eq ha hb (nomark _)
theorem st_ne (ha : SemE S a fa) (hb : SemE S b fb) : SemT S (.Compare a [.NotEq] [b] pos) (asB (bi2 dNe fa fb)) := st_cmp (fun X hX => hX.hK ▸ op_neA (by have := hX.units; omega)) o2_ne ha hb (nomark _)
/-- is None, is not None -/
def isN : D → Bool
  | .none => true
  | _ => false
def dIs : D → D → Rv D
  | a, .none => .ok (.bool (isN a))
  | _, _ => .un
def dIsNot : D → D → Rv D
  | a, .none => .ok (.bool !(isN a))
  | _, _ => .un
@[simp] theorem dIs_n (a : D) : dIs a .none = .ok (.bool (isN a)) := by cases a <;> rfl
@[simp] theorem dIsNot_n (a : D) : dIsNot a .none = .ok (.bool !(isN a)) := by cases a <;> rfl
theorem Rp.isN {c : Cz} {H : Hp} {v : V} {d : D} (r : Rp c H v d) : Bv.isN d = decide (v = .non) := by
  cases r <;> rfl
theorem o2_is : Op2 S (fun x y H Q => y = .non ∧ Q (.bl (decide (x = .non))) H) dIs := by
  intro x y a b H Z Q σ z ra rb h
  cases rb with
  | non =>
    rw [dIs_n, ra.isN] at h
    exact ⟨rfl, Post.ok (R := RE S) h (.bl _)⟩
  | _ => cases a <;> exact False.elim h
theorem o2_isnot : Op2 S (fun x y H Q => y = .non ∧ Q (.bl (!decide (x = .non))) H) dIsNot := by
  intro x y a b H Z Q σ z ra rb h
  cases rb with
  | non =>
    rw [dIsNot_n, ra.isN] at h
    exact ⟨rfl, Post.ok (R := RE S) h (.bl _)⟩
  | _ => cases a <;> exact False.elim h
theorem se_is (ha : SemE S a fa) (hb : SemE S b fb) : SemE S (.Compare a [.Is] [b] pos) (bi2 dIs fa fb) := se_cmp (fun _ _ => op_isN) o2_is ha hb (nomark _)
theorem se_isnot (ha : SemE S a fa) (hb : SemE S b fb) : SemE S (.Compare a [.IsNot] [b] pos) (bi2 dIsNot fa fb) := se_cmp (fun _ _ => op_notN) o2_isnot ha hb (nomark _)
theorem st_is (ha : SemE S a fa) (hb : SemE S b fb) : SemT S (.Compare a [.Is] [b] pos) (asB (bi2 dIs fa fb)) := st_cmp (fun _ _ => op_isN) o2_is ha hb (nomark _)
theorem st_isnot (ha : SemE S a fa) (hb : SemE S b fb) : SemT S (.Compare a [.IsNot] [b] pos) (asB (bi2 dIsNot fa fb)) := st_cmp (fun _ _ => op_notN) o2_isnot ha hb (nomark _)
/-- a op b op' c -/
def chn (g g' : D → D → Rv D) (fa fb fc : Vw → Rv D) (η : Vw) : Rv D := (fa η).bind fun a => (fb η).bind fun b => (g a b).bind fun k => match k with
  | .bool true => (fc η).bind fun c => g' b c
  | .bool false => .ok (.bool false)
  | _ => .un
theorem chn_run {r r' : R2} {g g' : D → D → Rv D} {ta tb tc : TE} (hr : Op2 S r g) (hr' : Op2 S r' g') (ha : Tells S (RE S) ta fa) (hb : Tells S (RE S) tb fb) (hc : Tells S (RE S) tc fc) : Tells S (RE S) (tChain r r' ta tb tc) (chn g g' fa fb fc) := by
  intro η σ H Z Q z hη h
  refine ha η σ H Z _ z hη (Post.bind h fun a x H1 _ e1 r1 h1 => ?_)
  refine hb η σ H1 Z _ (z.gr e1) (hη.gr (e1.hid Z)) (Post.bind h1 fun b y H2 _ e2 r2 h2 => ?_)
  refine hr x y a b H2 Z _ σ ((z.gr e1).gr e2) (r1.gr (e2.hid Z)) r2 (Post.bind h2 fun k v H3 _ e3 r3 h3 => ?_)
  cases r3 with
  | bl k =>
    refine ⟨k, rfl, ?_⟩
    cases k with
    | true => exact hc η σ H3 Z _ (((z.gr e1).gr e2).gr e3) (hη.gr (((e1.trans e2).trans e3).hid Z)) (Post.bind h3 fun c w H4 _ e4 r4 h4 => hr' y w b c H4 Z Q σ ((((z.gr e1).gr e2).gr e3).gr e4) (r2.gr ((e3.trans e4).hid Z)) r4 h4)
    | false => exact Post.ok (R := RE S) h3 (.bl false)
  | _ => exact False.elim h3
theorem se_chain {op op' : CmpOp} {r r' : R2} {g g' : D → D → Rv D} (ho : ∀ X, S.At X → OpR X (compareOp op) r) (ho' : ∀ X, S.At X → OpR X (compareOp op') r') (hr : Op2 S r g) (hr' : Op2 S r' g') (ha : SemE S a fa) (hb : SemE S b fb) (hc : SemE S c fc)
    (hm : lastMarks [op, op'] [b, c] = false := by with_unfolding_all rfl) : SemE S (.Compare a [op, op'] [b, c] pos) (chn g g' fa fb fc) := by
  obtain ⟨ta, pa, qa⟩ := ha.ex
  obtain ⟨tb, pb, qb⟩ := hb.ex
  obtain ⟨tc, pc, qc⟩ := hc.ex
  exact ⟨⟨_, fun X hX => pe_chain (ho X hX) (ho' X hX) (pa X hX) (pb X hX) (pc X hX) hm, chn_run hr hr' qa qb qc⟩⟩
theorem st_chain {op op' : CmpOp} {r r' : R2} {g g' : D → D → Rv D} (ho : ∀ X, S.At X → OpR X (compareOp op) r) (ho' : ∀ X, S.At X → OpR X (compareOp op') r') (hr : Op2 S r g) (hr' : Op2 S r' g') (ha : SemE S a fa) (hb : SemE S b fb) (hc : SemE S c fc)
    (hm : lastMarks [op, op'] [b, c] = false := by with_unfolding_all rfl) : SemT S (.Compare a [op, op'] [b, c] pos) (asB (chn g g' fa fb fc)) := by
  obtain ⟨ta, pa, qa⟩ := ha.ex
  obtain ⟨tb, pb, qb⟩ := hb.ex
  obtain ⟨tc, pc, qc⟩ := hc.ex
  exact ⟨⟨_, fun X hX => pt_chain (ho X hX) (ho' X hX) (pa X hX) (pb X hX) (pc X hX) hm, asB_run (chn_run hr hr' qa qb qc)⟩⟩

/-! ### a[i] -/
def dIx : D → D → Rv D
  | .list xs, .int i => match atI xs i with | some d => .ok d | none => .un
  | .tuple xs, .int i => match atI xs i with | some d => .ok d | none => .un
  | .str z, .int i => if z.length ≤ 16000000 then match atI z.cps.toList i with | some c => .ok (.str ⟨#[c]⟩) | none => .un else .un
  | _, _ => .un
theorem dIx_l (xs : List D) (i : Int) : dIx (.list xs) (.int i) = match atI xs i with | some d => .ok d | none => .un := rfl
theorem dIx_t (xs : List D) (i : Int) : dIx (.tuple xs) (.int i) = match atI xs i with | some d => .ok d | none => .un := rfl
theorem dIx_s (z : Str) (i : Int) : dIx (.str z) (.int i) = if z.length ≤ 16000000 then match atI z.cps.toList i with | some c => .ok (.str ⟨#[c]⟩) | none => .un else .un := rfl
theorem RpA.atI {c : Cz} {H : Hp} {vs : List V} {ds : List D} {i : Int} {d : D} (r : RpA c H vs ds) (h : L2.atI ds i = some d) : ∃ v, L2.atI vs i = some v ∧ Rp c H v d := by
  unfold L2.atI at h ⊢
  rw [RpA.length r]
  cases e : ixN ds.length i with
  | none => rw [e] at h; cases h
  | some j =>
    rw [e] at h
    exact RpA.get r h
theorem o2_ix : Op2 S (rIx S.K) dIx := by
  intro x y a b H Z Q σ z ra rb h
  cases rb with
  | int i =>
    cases ra with
    | lst h1 r1 =>
      rw [dIx_l] at h
      split at h
      · rename_i d e
        obtain ⟨v, ev, rv⟩ := RpA.atI r1 e
        exact .inl ⟨_, _, i, v, rfl, rfl, ((Gr.hid_le H Z).rdl h1).sq, ev, Post.ok (R := RE S) h rv⟩
      · exact False.elim h
    | tup h1 r1 =>
      rw [dIx_t] at h
      split at h
      · rename_i d e
        obtain ⟨v, ev, rv⟩ := RpA.atI r1 e
        exact .inr (.inl ⟨_, _, i, v, rfl, rfl, (Gr.hid_le H Z).sqT h1, ev, Post.ok (R := RE S) h rv⟩)
      · exact False.elim h
    | str x =>
      rw [dIx_s] at h
      split at h
      · rename_i hl
        split at h
        · rename_i cc e
          exact .inr (.inr ⟨x, i, cc, rfl, rfl, line_ge hl, e, Post.ok (R := RE S) h (.str _)⟩)
        · exact False.elim h
      · exact False.elim h
    | _ => exact False.elim h
  | _ => cases a <;> exact False.elim h
theorem se_ix (ha : SemE S a fa) (hb : SemE S b fb) (hs : PlainIx b := by intro _ _; rfl) : SemE S (.Subscript a b pos) (bi2 dIx fa fb) := by
  obtain ⟨ta, pa, qa⟩ := ha.ex
  obtain ⟨tb, pb, qb⟩ := hb.ex
  exact ⟨⟨_, fun X hX => pe_ix (hX.hK ▸ ix_seq) (pa X hX) (pb X hX) hs, bin_run o2_ix qa qb⟩⟩

/-! ### a[lo:hi] -/
def onone (_ : Vw) : Rv (Option Int) := .ok none
def osome (f : Vw → Rv D) (η : Vw) : Rv (Option Int) := (f η).bind fun d => match d with | .int i => .ok (some i) | _ => .un
theorem so_none : SemO S none onone := ⟨⟨_, fun _ _ => po_none, fun _ _ _ _ _ _ _ h => Post.ok (R := RO) h rfl⟩⟩
theorem so_some {e : Expr} {f : Vw → Rv D} (h : SemE S e f) : SemO S (some e) (osome f) := by
  obtain ⟨t, p, q⟩ := h.ex
  refine ⟨⟨_, fun X hX => po_some (p X hX), fun η σ H Z Q z hη h => ?_⟩⟩
  refine q η σ H Z _ z hη (Post.bind h fun d x H1 _ e1 r1 h1 => ?_)
  cases r1 with
  | int i => exact ⟨i, rfl, Post.ok (R := RO) h1 rfl⟩
  | _ => exact False.elim h1
def cutD (xs : List D) (lo hi : Option Int) : List D := (xs.drop (HT.sIx xs.length 0 lo)).take (HT.sIx xs.length xs.length hi - HT.sIx xs.length 0 lo)
theorem RpA.cut {c : Cz} {H : Hp} {vs : List V} {ds : List D} (r : RpA c H vs ds) (lo hi : Option Int) : RpA c H (cutV vs lo hi) (cutD ds lo hi) := by
  unfold cutV cutD
  rw [RpA.length r]
  exact RpA.take _ (RpA.drop _ r)
def rSlAll (K : PySem.W.Frag) : V → Option Int → Option Int → Hp → VK → Prop := fun x lo hi H Q => rSlL K x lo hi H Q ∨ rSlA K x lo hi H Q
theorem sl_all : SlR X (rSlAll X.K) := sl_list.or sl_tupA
def dSl : D → Option Int → Option Int → Rv D
  | .list xs, lo, hi => .ok (.list (cutD xs lo hi))
  | .tuple xs, lo, hi => .ok (.tuple (cutD xs lo hi))
  | _, _, _ => .un
@[simp] theorem dSl_l (xs : List D) (lo hi : Option Int) : dSl (.list xs) lo hi = .ok (.list (cutD xs lo hi)) := rfl
@[simp] theorem dSl_t (xs : List D) (lo hi : Option Int) : dSl (.tuple xs) lo hi = .ok (.tuple (cutD xs lo hi)) := rfl
def slc (f : Vw → Rv D) (l u : Vw → Rv (Option Int)) (η : Vw) : Rv D := (f η).bind fun d => (l η).bind fun lo => (u η).bind fun hi => dSl d lo hi
theorem cut_whole {c : Cz} {H : Hp} {vs : List V} {ds : List D} {lo hi : Option Int} (r : RpA c H vs ds) (h : HT.sIx vs.length 0 lo = 0 ∧ HT.sIx vs.length vs.length hi = vs.length) : cutD ds lo hi = ds := by
  unfold cutD
  rw [RpA.length r] at h
  rw [h.1, h.2, List.drop_zero, Nat.sub_zero, List.take_length]
theorem se_slice {lo hi : Option Expr} {fl fh : Vw → Rv (Option Int)} {p2 : Pos} (ha : SemE S a fa) (hl : SemO S lo fl) (hh : SemO S hi fh) : SemE S (.Subscript a (.Slice lo hi none p2) pos) (slc fa fl fh) := by
  obtain ⟨ta, pa, qa⟩ := ha.ex
  obtain ⟨tl, pl, ql⟩ := hl.ex
  obtain ⟨th, ph, qh⟩ := hh.ex
  refine ⟨⟨_, fun X hX => pe_slice (r := rSlAll S.K) (hX.hK ▸ sl_all) (pa X hX) (pl X hX) (ph X hX), fun η σ H Z Q z hη h => ?_⟩⟩
  refine qa η σ H Z _ z hη (Post.bind h fun d x H1 _ e1 r1 h1 => ?_)
  refine ql η σ H1 Z _ (z.gr e1) (hη.gr (e1.hid Z)) (Post.bind h1 fun l y H2 _ e2 r2 h2 => ?_)
  refine qh η σ H2 Z _ ((z.gr e1).gr e2) (hη.gr ((e1.trans e2).hid Z)) (Post.bind h2 fun u w H3 _ e3 r3 h3 => ?_)
  cases (show y = l from r2)
  cases (show w = u from r3)
  have z3 := ((z.gr e1).gr e2).gr e3
  have r4 := r1.gr ((e2.trans e3).hid Z)
  cases r4 with
  | lst q1 q2 => exact .inl ⟨_, _, rfl, ((Gr.hid_le H3 Z).rdl q1).sq, fun p hp => Post.newL z3 h3 (RpA.cut q2 _ _) hp⟩
  | tup q1 q2 =>
    refine .inr ⟨_, _, rfl, (Gr.hid_le H3 Z).sqT q1, fun hw => ?_, fun _ p hp => Post.newT z3 h3 (RpA.cut q2 _ _) hp⟩
    have h4 : Post S (RE S) σ Z H3 Q (.ok (.tuple (cutD _ _ _))) := h3
    rw [cut_whole q2 hw] at h4
    exact Post.ok (R := RE S) h4 (.tup q1 q2)
  | _ => exact False.elim h3
end
end Bv

namespace Bv
open PySem PySem.Spec L2 PyProof.Rows

/-! ### what the slots hold: nothing, data that stands, data of one's own (n lists deep: a tree that no other knows) -/
inductive Sl where
  | un | fz (d : D) | ow (n : Nat) (d : D)
abbrev Env' := List Sl
mutual
inductive Tree (c : Cz) (Hv H : Hp) : Nat → V → D → List Addr → Prop
  | leaf0 {v : V} {d : D} : Rp c Hv v d → Tree c Hv H 0 v d []
  | leaf {n : Nat} {v : V} {d : D} : imm d = true → Rp c Hv v d → Tree c Hv H n v d []
  | lst {n : Nat} {a : Addr} {xs : List V} {ds : List D} {U : List Addr} : H a = some (.lst xs) → TreeA c Hv H n xs ds U → a ∉ U → Tree c Hv H (n + 1) (.ref a) (.list ds) (a :: U)
  | tup {n : Nat} {a : Addr} {xs : List V} {ds : List D} {U : List Addr} : SqT c.K Hv a xs → TreeA c Hv H (n + 1) xs ds U → Tree c Hv H (n + 1) (.ref a) (.tuple ds) U
  | dctK {n : Nat} {a : Addr} {kvs : List (Key × V)} {ds : List (D × D)} {U : List Addr} : H a = some (.dK kvs) → TreeK c Hv H n kvs ds U → a ∉ U → Tree c Hv H (n + 1) (.ref a) (.dict ((.none, .int 0) :: ds)) (a :: U)
  | dctN {n : Nat} {a : Addr} {o : Obj} {xs : List (NestedKey × Addr × V)} {ds : List (D × D)} {U : List Addr} : H a = some (rawO a o) → DN c a o xs → TreeN c Hv H n xs ds U → a ∉ U → Tree c Hv H (n + 1) (.ref a) (.dict ((.none, .int 1) :: ds)) (a :: U)
inductive TreeA (c : Cz) (Hv H : Hp) : Nat → List V → List D → List Addr → Prop
  | nil {n : Nat} : TreeA c Hv H n [] [] []
  | cons {n : Nat} {v : V} {vs : List V} {d : D} {ds : List D} {U W : List Addr} : Tree c Hv H n v d U → TreeA c Hv H n vs ds W → (∀ a ∈ U, a ∉ W) → TreeA c Hv H n (v :: vs) (d :: ds) (U ++ W)
inductive TreeK (c : Cz) (Hv H : Hp) : Nat → List (Key × V) → List (D × D) → List Addr → Prop
  | nil {n : Nat} : TreeK c Hv H n [] [] []
  | cons {n : Nat} {k : Key} {v : V} {vs : List (Key × V)} {d : D} {ds : List (D × D)} {U W : List Addr} : Tree c Hv H n v d U → TreeK c Hv H n vs ds W → (∀ a ∈ U, a ∉ W) → TreeK c Hv H n ((k, v) :: vs) ((kD k, d) :: ds) (U ++ W)
inductive TreeN (c : Cz) (Hv H : Hp) : Nat → List (NestedKey × Addr × V) → List (D × D) → List Addr → Prop
  | nil {n : Nat} : TreeN c Hv H n [] [] []
  | cons {n : Nat} {k : NestedKey} {b : Addr} {v : V} {vs : List (NestedKey × Addr × V)} {e d : D} {ds : List (D × D)} {U W : List Addr} : Rp c Hv (.ref b) e → dkey e = some k → Tree c Hv H n v d U → TreeN c Hv H n vs ds W → (∀ a ∈ U, a ∉ W) → TreeN c Hv H n ((k, b, v) :: vs) ((e, d) :: ds) (U ++ W)
end
section
variable {c : Cz} {Hv Hv' H H' : Hp}
mutual
theorem Tree.gr (e : Gr Hv Hv') : ∀ {n : Nat} {v : V} {d : D} {U : List Addr}, (∀ a ∈ U, H' a = H a) → Tree c Hv H n v d U → Tree c Hv' H' n v d U
  | _, _, _, _, _, .leaf0 r => .leaf0 (r.gr e)
  | _, _, _, _, _, .leaf i r => .leaf i (r.gr e)
  | _, _, _, _, k, .lst h1 h2 h3 => .lst ((k _ List.mem_cons_self).trans h1) (TreeA.gr e (fun a h => k a (List.mem_cons_of_mem _ h)) h2) h3
  | _, _, _, _, k, .tup h1 h2 => .tup (e.sqT h1) (TreeA.gr e k h2)
  | _, _, _, _, k, .dctK h1 h2 h3 => .dctK ((k _ List.mem_cons_self).trans h1) (TreeK.gr e (fun a h => k a (List.mem_cons_of_mem _ h)) h2) h3
  | _, _, _, _, k, .dctN h1 h2 h3 h4 => .dctN ((k _ List.mem_cons_self).trans h1) h2 (TreeN.gr e (fun a h => k a (List.mem_cons_of_mem _ h)) h3) h4
theorem TreeA.gr (e : Gr Hv Hv') : ∀ {n : Nat} {v : List V} {d : List D} {U : List Addr}, (∀ a ∈ U, H' a = H a) → TreeA c Hv H n v d U → TreeA c Hv' H' n v d U
  | _, _, _, _, _, .nil => .nil
  | _, _, _, _, k, .cons h1 h2 h3 => .cons (Tree.gr e (fun a h => k a (List.mem_append_left _ h)) h1) (TreeA.gr e (fun a h => k a (List.mem_append_right _ h)) h2) h3
theorem TreeK.gr (e : Gr Hv Hv') : ∀ {n : Nat} {v : List (Key × V)} {d : List (D × D)} {U : List Addr}, (∀ a ∈ U, H' a = H a) → TreeK c Hv H n v d U → TreeK c Hv' H' n v d U
  | _, _, _, _, _, .nil => .nil
  | _, _, _, _, k, .cons h1 h2 h3 => .cons (Tree.gr e (fun a h => k a (List.mem_append_left _ h)) h1) (TreeK.gr e (fun a h => k a (List.mem_append_right _ h)) h2) h3
theorem TreeN.gr (e : Gr Hv Hv') : ∀ {n : Nat} {v : List (NestedKey × Addr × V)} {d : List (D × D)} {U : List Addr}, (∀ a ∈ U, H' a = H a) → TreeN c Hv H n v d U → TreeN c Hv' H' n v d U
  | _, _, _, _, _, .nil => .nil
  | _, _, _, _, k, .cons q1 q2 h1 h2 h3 => .cons (q1.gr e) q2 (Tree.gr e (fun a h => k a (List.mem_append_left _ h)) h1) (TreeN.gr e (fun a h => k a (List.mem_append_right _ h)) h2) h3
end
mutual
theorem Tree.rp (e : Gr Hv Hv') : ∀ {n : Nat} {v : V} {d : D} {U : List Addr}, (∀ a ∈ U, Hv' a = H a) → Tree c Hv H n v d U → Rp c Hv' v d
  | _, _, _, _, _, .leaf0 r => r.gr e
  | _, _, _, _, _, .leaf i r => r.gr e
  | _, _, _, _, k, .lst h1 h2 h3 => .lst (.inl (.inl ((k _ List.mem_cons_self).trans h1))) (TreeA.rp e (fun a h => k a (List.mem_cons_of_mem _ h)) h2)
  | _, _, _, _, k, .tup h1 h2 => .tup (e.sqT h1) (TreeA.rp e k h2)
  | _, _, _, _, k, .dctK h1 h2 h3 => .dctK (.inl ((k _ List.mem_cons_self).trans h1)) (TreeK.rp e (fun a h => k a (List.mem_cons_of_mem _ h)) h2)
  | _, _, _, _, k, .dctN h1 h2 h3 h4 => .dctN ((k _ List.mem_cons_self).trans h1) h2 (TreeN.rp e (fun a h => k a (List.mem_cons_of_mem _ h)) h3)
theorem TreeA.rp (e : Gr Hv Hv') : ∀ {n : Nat} {v : List V} {d : List D} {U : List Addr}, (∀ a ∈ U, Hv' a = H a) → TreeA c Hv H n v d U → RpA c Hv' v d
  | _, _, _, _, _, .nil => .nil
  | _, _, _, _, k, .cons h1 h2 h3 => .cons (Tree.rp e (fun a h => k a (List.mem_append_left _ h)) h1) (TreeA.rp e (fun a h => k a (List.mem_append_right _ h)) h2)
theorem TreeK.rp (e : Gr Hv Hv') : ∀ {n : Nat} {v : List (Key × V)} {d : List (D × D)} {U : List Addr}, (∀ a ∈ U, Hv' a = H a) → TreeK c Hv H n v d U → RpK c Hv' v d
  | _, _, _, _, _, .nil => .nil
  | _, _, _, _, k, .cons h1 h2 h3 => .cons (Tree.rp e (fun a h => k a (List.mem_append_left _ h)) h1) (TreeK.rp e (fun a h => k a (List.mem_append_right _ h)) h2)
theorem TreeN.rp (e : Gr Hv Hv') : ∀ {n : Nat} {v : List (NestedKey × Addr × V)} {d : List (D × D)} {U : List Addr}, (∀ a ∈ U, Hv' a = H a) → TreeN c Hv H n v d U → RpN c Hv' v d
  | _, _, _, _, _, .nil => .nil
  | _, _, _, _, k, .cons q1 q2 h1 h2 h3 => .cons (q1.gr e) q2 (Tree.rp e (fun a h => k a (List.mem_append_left _ h)) h1) (TreeN.rp e (fun a h => k a (List.mem_append_right _ h)) h2)
end
/-- what may stand at a place of one's own -/
def OwnO (o : HO) : Prop := (∃ xs, o = .lst xs) ∨ (∃ kvs, o = .dK kvs) ∨ ∃ a ob, o = rawO a ob
theorem rawO_tup {a : Addr} {ob : Obj} {xs : List V} : rawO a ob ≠ .tup xs := fun z => by
  have z' : HO.ext _ = HO.tup xs := z
  cases z'
theorem rawO_frz {a : Addr} {ob o : Obj} {u : HO} : rawO a ob ≠ .frz o u := fun z => by
  have z' : HO.ext _ = HO.frz o u := z
  cases z'
theorem OwnO.notT {o : HO} (h : OwnO o) : NotT (Option.some o) := by
  rcases h with ⟨_, rfl⟩ | ⟨_, rfl⟩ | ⟨_, _, rfl⟩
  · exact fun xs => ⟨(fun z => by cases z), (fun ob z => by cases z)⟩
  · exact fun xs => ⟨(fun z => by cases z), (fun ob z => by cases z)⟩
  · exact fun xs => ⟨(fun z => rawO_tup (Option.some.inj z)), (fun ob z => rawO_frz (Option.some.inj z))⟩
mutual
theorem Tree.lists : ∀ {n : Nat} {v : V} {d : D} {U : List Addr}, Tree c Hv H n v d U → ∀ a ∈ U, ∃ o, H a = some o ∧ OwnO o
  | _, _, _, _, .leaf0 _ => fun _ h => by cases h
  | _, _, _, _, .leaf _ _ => fun _ h => by cases h
  | _, _, _, _, .lst h1 h2 h3 => fun a h => by
    rcases List.mem_cons.mp h with rfl | h
    · exact ⟨_, h1, .inl ⟨_, rfl⟩⟩
    · exact TreeA.lists h2 a h
  | _, _, _, _, .tup h1 h2 => TreeA.lists h2
  | _, _, _, _, .dctK h1 h2 h3 => fun a h => by
    rcases List.mem_cons.mp h with rfl | h
    · exact ⟨_, h1, .inr (.inl ⟨_, rfl⟩)⟩
    · exact TreeK.lists h2 a h
  | _, _, _, _, .dctN h1 h2 h3 h4 => fun a h => by
    rcases List.mem_cons.mp h with rfl | h
    · exact ⟨_, h1, .inr (.inr ⟨_, _, rfl⟩)⟩
    · exact TreeN.lists h3 a h
theorem TreeA.lists : ∀ {n : Nat} {v : List V} {d : List D} {U : List Addr}, TreeA c Hv H n v d U → ∀ a ∈ U, ∃ o, H a = some o ∧ OwnO o
  | _, _, _, _, .nil => fun _ h => by cases h
  | _, _, _, _, .cons h1 h2 h3 => fun a h => (List.mem_append.mp h).elim (Tree.lists h1 a) (TreeA.lists h2 a)
theorem TreeK.lists : ∀ {n : Nat} {v : List (Key × V)} {d : List (D × D)} {U : List Addr}, TreeK c Hv H n v d U → ∀ a ∈ U, ∃ o, H a = some o ∧ OwnO o
  | _, _, _, _, .nil => fun _ h => by cases h
  | _, _, _, _, .cons h1 h2 h3 => fun a h => (List.mem_append.mp h).elim (Tree.lists h1 a) (TreeK.lists h2 a)
theorem TreeN.lists : ∀ {n : Nat} {v : List (NestedKey × Addr × V)} {d : List (D × D)} {U : List Addr}, TreeN c Hv H n v d U → ∀ a ∈ U, ∃ o, H a = some o ∧ OwnO o
  | _, _, _, _, .nil => fun _ h => by cases h
  | _, _, _, _, .cons _ _ h1 h2 h3 => fun a h => (List.mem_append.mp h).elim (Tree.lists h1 a) (TreeN.lists h2 a)
end
theorem Tree.some {n : Nat} {v : V} {d : D} {U : List Addr} (t : Tree c Hv H n v d U) {a : Addr} (h : a ∈ U) : H a ≠ none := by
  obtain ⟨xs, e, _⟩ := t.lists a h
  rw [e]; exact fun z => by cases z
theorem Tree.notT {n : Nat} {v : V} {d : D} {U : List Addr} (t : Tree c Hv H n v d U) {a : Addr} (h : a ∈ U) : NotT (H a) := by
  obtain ⟨xs, e, q⟩ := t.lists a h
  rw [e]; exact q.notT
theorem TreeA.leaves {vs : List V} : ∀ {ds : List D}, RpA c Hv vs ds → TreeA c Hv H 0 vs ds [] := by
  induction vs with
  | nil => intro ds h; cases h; exact .nil
  | cons v vs ih => intro ds h; cases h with | cons h1 h2 => exact .cons (U := []) (W := []) (.leaf0 h1) (ih h2) (fun a h => by cases h)
end

/-- hidden: Z, and one's own but for the slots M -/
def hz (Z : Addr → Prop) (ρ : Env') (o : Nat → List Addr) (M : List Nat) : Addr → Prop := fun a => Z a ∨ ∃ i n d, ρ[i]? = some (Sl.ow n d) ∧ i ∉ M ∧ a ∈ o i
structure OkAt (c : Cz) (F H0 : Hp) (Z : Addr → Prop) (ρ : Env') (o : Nat → List Addr) (σ : L2.St) (H : Hp) : Prop where
  len : σ.length = ρ.length
  fz : ∀ (i : Nat) (d : D), ρ[i]? = some (.fz d) → ∃ v : V, σ[i]? = some (some v) ∧ Rp c (hid H (hz Z ρ o [])) v d
  ow : ∀ (i n : Nat) (d : D), ρ[i]? = some (.ow n d) → (∃ v : V, σ[i]? = some (some v) ∧ Tree c (hid H (hz Z ρ o [])) H n v d (o i)) ∧ ∀ a ∈ o i, H0 a = none ∧ ¬ Z a
  inj : ∀ (i j n m : Nat) (d e : D), ρ[i]? = some (.ow n d) → ρ[j]? = some (.ow m e) → i ≠ j → ∀ a ∈ o i, a ∉ o j
  gr : Gr H0 H
  fr : Gr F (hid H (hz Z ρ o []))
  zin : In Z H0
def Ok (c : Cz) (F H0 : Hp) (Z : Addr → Prop) (ρ : Env') (σ : L2.St) (H : Hp) : Prop := ∃ o, OkAt c F H0 Z ρ o σ H

/-- the view of the slots, one's own but those in M hidden -/
def vw1 (M : List Nat) (i : Nat) : Sl → Option D
  | .un => none
  | .fz d => some d
  | .ow _ d => if M.contains i then some d else none
theorem vw1_ow (M : List Nat) (i n : Nat) (d : D) : vw1 M i (.ow n d) = if M.contains i = true then some d else none := rfl
def vwF (M : List Nat) : Nat → Env' → Vw
  | _, [] => []
  | k, s :: r => vw1 M k s :: vwF M (k + 1) r
def vw (M : List Nat) (ρ : Env') : Vw := vwF M 0 ρ
theorem vwF_get (M : List Nat) : ∀ (ρ : Env') (k i : Nat), (vwF M k ρ)[i]? = (ρ[i]?).map (vw1 M (k + i))
  | [], _, _ => by simp [vwF]
  | s :: r, k, 0 => by simp [vwF]
  | s :: r, k, i + 1 => by
    rw [vwF, List.getElem?_cons_succ, vwF_get M r (k + 1) i, List.getElem?_cons_succ]
    rw [show k + 1 + i = k + (i + 1) by omega]
theorem vw_length (M : List Nat) (ρ : Env') : (vw M ρ).length = ρ.length := by
  have : ∀ (ρ : Env') (k : Nat), (vwF M k ρ).length = ρ.length := by
    intro ρ
    induction ρ with
    | nil => intro k; rfl
    | cons s r ih => intro k; simp [vwF, ih]
  exact this ρ 0
theorem vw_get (M : List Nat) (ρ : Env') (i : Nat) : (vw M ρ)[i]? = (ρ[i]?).map (vw1 M i) := by
  rw [vw, vwF_get, Nat.zero_add]
/-- one's own in M given up -/
def frz1 (M : List Nat) (i : Nat) : Sl → Sl
  | .ow n d => if M.contains i then .fz d else .ow n d
  | s => s
theorem frz1_ow (M : List Nat) (i n : Nat) (d : D) : frz1 M i (.ow n d) = if M.contains i = true then .fz d else .ow n d := rfl
def frzF (M : List Nat) : Nat → Env' → Env'
  | _, [] => []
  | k, s :: r => frz1 M k s :: frzF M (k + 1) r
def frz (M : List Nat) (ρ : Env') : Env' := frzF M 0 ρ
theorem frzF_get (M : List Nat) : ∀ (ρ : Env') (k i : Nat), (frzF M k ρ)[i]? = (ρ[i]?).map (frz1 M (k + i))
  | [], _, _ => by simp [frzF]
  | s :: r, k, 0 => by simp [frzF]
  | s :: r, k, i + 1 => by
    rw [frzF, List.getElem?_cons_succ, frzF_get M r (k + 1) i, List.getElem?_cons_succ]
    rw [show k + 1 + i = k + (i + 1) by omega]
theorem frz_get (M : List Nat) (ρ : Env') (i : Nat) : (frz M ρ)[i]? = (ρ[i]?).map (frz1 M i) := by
  rw [frz, frzF_get, Nat.zero_add]
theorem frz_length (M : List Nat) (ρ : Env') : (frz M ρ).length = ρ.length := by
  have : ∀ (ρ : Env') (k : Nat), (frzF M k ρ).length = ρ.length := by
    intro ρ
    induction ρ with
    | nil => intro k; rfl
    | cons s r ih => intro k; simp [frzF, ih]
  exact this ρ 0
theorem frz_ow {M : List Nat} {ρ : Env'} {i n : Nat} {d : D} (h : (frz M ρ)[i]? = some (.ow n d)) : ρ[i]? = some (.ow n d) ∧ i ∉ M := by
  rw [frz_get] at h
  cases e : ρ[i]? with
  | none => rw [e] at h; cases h
  | some s =>
    rw [e] at h
    cases s with
    | un => cases h
    | fz x => cases h
    | ow m x =>
      have h' : frz1 M i (.ow m x) = .ow n d := Option.some.inj h
      rw [frz1_ow] at h'
      split at h'
      · cases h'
      · rename_i hm
        cases h'
        exact ⟨rfl, by simpa using hm⟩
theorem frz_fz {M : List Nat} {ρ : Env'} {i : Nat} {d : D} (h : (frz M ρ)[i]? = some (.fz d)) : ρ[i]? = some (.fz d) ∨ ((∃ n, ρ[i]? = some (.ow n d)) ∧ i ∈ M) := by
  rw [frz_get] at h
  cases e : ρ[i]? with
  | none => rw [e] at h; cases h
  | some s =>
    rw [e] at h
    cases s with
    | un => cases h
    | fz x => cases h; exact .inl rfl
    | ow m x =>
      have h' : frz1 M i (.ow m x) = .fz d := Option.some.inj h
      rw [frz1_ow] at h'
      split at h'
      · rename_i hm
        cases h'
        exact .inr ⟨⟨m, rfl⟩, by simpa using hm⟩
      · cases h'
theorem frz_of {M : List Nat} {ρ : Env'} {i n : Nat} {d : D} (h : ρ[i]? = some (.ow n d)) (hm : i ∉ M) : (frz M ρ)[i]? = some (.ow n d) := by
  rw [frz_get, h]
  show some (frz1 M i (.ow n d)) = _
  rw [frz1_ow, if_neg (by simpa using hm)]

section
variable {c : Cz} {F H0 H H' : Hp} {Z : Addr → Prop} {ρ : Env'} {o : Nat → List Addr} {σ : L2.St} {M : List Nat}
theorem hz_mono {M' : List Nat} (h : ∀ i ∈ M', i ∈ M) {a : Addr} (q : hz Z ρ o M a) : hz Z ρ o M' a := q.imp id fun ⟨i, n, d, h1, h2, h3⟩ => ⟨i, n, d, h1, fun z => h2 (h i z), h3⟩
theorem hz_nil {a : Addr} (q : hz Z ρ o M a) : hz Z ρ o [] a := hz_mono (by simp) q
theorem OkAt.hin (k : OkAt c F H0 Z ρ o σ H) : In (hz Z ρ o M) H := fun a h => by
  rcases h with h | ⟨i, n, d, h1, _, h3⟩
  · exact k.zin.gr k.gr a h
  · obtain ⟨⟨v, _, t⟩, _⟩ := k.ow i n d h1
    exact t.some h3
/-- growing -/
theorem OkAt.grow (k : OkAt c F H0 Z ρ o σ H) (e : Gr H H') : OkAt c F H0 Z ρ o σ H' where
  len := k.len
  fz := fun i d h => let ⟨v, h1, h2⟩ := k.fz i d h; ⟨v, h1, h2.gr (e.hid _)⟩
  ow := fun i n d h => by
    obtain ⟨⟨v, h1, t⟩, h2⟩ := k.ow i n d h
    refine ⟨⟨v, h1, t.gr (e.hid _) fun a ha => ?_⟩, h2⟩
    cases q : H a with
    | none => exact absurd q (t.some ha)
    | some u => exact e _ _ q
  inj := k.inj
  gr := k.gr.trans e
  fr := k.fr.trans (e.hid _)
  zin := k.zin
/-- one's own, seen -/
theorem OkAt.rpM (k : OkAt c F H0 Z ρ o σ H) {i n : Nat} {d : D} {v : V} (h : ρ[i]? = some (.ow n d)) (hm : i ∈ M) (t : Tree c (hid H (hz Z ρ o [])) H n v d (o i)) : Rp c (hid H (hz Z ρ o M)) v d := by
  have e : Gr (hid H (hz Z ρ o [])) (hid H (hz Z ρ o M)) := (Gr.refl H).hid2 fun a => hz_nil
  refine t.rp e fun a ha => hid_no fun z => ?_
  rcases z with z | ⟨j, m, d', j1, j2, j3⟩
  · exact ((k.ow i n d h).2 a ha).2 z
  · exact k.inj i j n m d d' h j1 (fun q => j2 (q ▸ hm)) a ha j3
/-- the view is right -/
theorem OkAt.view (k : OkAt c F H0 Z ρ o σ H) : Vok c (hid H (hz Z ρ o M)) (vw M ρ) σ := by
  refine ⟨by rw [vw_length, k.len]; exact Nat.le_refl _, ?_⟩
  intro i d h
  rw [vw_get] at h
  have e : Gr (hid H (hz Z ρ o [])) (hid H (hz Z ρ o M)) := (Gr.refl H).hid2 fun a => hz_nil
  cases q : ρ[i]? with
  | none => rw [q] at h; cases h
  | some s =>
    rw [q] at h
    have h : vw1 M i s = some d := Option.some.inj h
    cases s with
    | un => cases h
    | fz x =>
      cases h
      obtain ⟨v, h1, h2⟩ := k.fz i _ q
      exact ⟨v, h1, h2.gr e⟩
    | ow n x =>
      rw [vw1_ow] at h
      split at h
      · rename_i hm
        cases h
        obtain ⟨⟨v, h1, t⟩, h2⟩ := k.ow i n d q
        exact ⟨v, h1, k.rpM q (by simpa using hm) t⟩
      · cases h
/-- M given up -/
theorem hz_frz (a : Addr) : hz Z (frz M ρ) o [] a ↔ hz Z ρ o M a := by
  constructor
  · rintro (h | ⟨i, n, d, h1, h2, h3⟩)
    · exact .inl h
    · exact .inr ⟨i, n, d, (frz_ow h1).1, (frz_ow h1).2, h3⟩
  · rintro (h | ⟨i, n, d, h1, h2, h3⟩)
    · exact .inl h
    · exact .inr ⟨i, n, d, frz_of h1 h2, by simp, h3⟩
theorem hid_frz : hid H (hz Z (frz M ρ) o []) = hid H (hz Z ρ o M) := by
  have : hz Z (frz M ρ) o [] = hz Z ρ o M := funext fun a => propext (hz_frz a)
  rw [this]
theorem OkAt.freeze (k : OkAt c F H0 Z ρ o σ H) (M : List Nat) : OkAt c F H0 Z (frz M ρ) o σ H := by
  have e : Gr (hid H (hz Z ρ o [])) (hid H (hz Z (frz M ρ) o [])) := by
    rw [hid_frz]
    exact (Gr.refl H).hid2 fun a => hz_nil
  refine ⟨by rw [frz_length]; exact k.len, fun i d h => ?_, fun i n d h => ?_, fun i j n m d d' h1 h2 q => k.inj i j _ _ _ _ (frz_ow h1).1 (frz_ow h2).1 q, k.gr, k.fr.trans e, k.zin⟩
  · rcases frz_fz h with h | ⟨⟨n, h⟩, hm⟩
    · obtain ⟨v, h1, h2⟩ := k.fz i d h
      exact ⟨v, h1, h2.gr e⟩
    · obtain ⟨⟨v, h1, t⟩, h2⟩ := k.ow i n d h
      refine ⟨v, h1, ?_⟩
      rw [hid_frz]
      exact k.rpM h hm t
  · obtain ⟨⟨v, h1, t⟩, h2⟩ := k.ow i n d (frz_ow h).1
    exact ⟨⟨v, h1, t.gr e fun _ _ => rfl⟩, h2⟩
theorem set_ow {i j n : Nat} {s : Sl} {d : D} (h : (ρ.set i s)[j]? = some (.ow n d)) (hs : ∀ n e, s ≠ .ow n e) : ρ[j]? = some (.ow n d) ∧ j ≠ i := by
  by_cases e : i = j
  · subst e
    rw [List.getElem?_set] at h
    split at h
    · split at h
      · cases h; exact absurd rfl (hs n d)
      · cases h
    · contradiction
  · rw [List.getElem?_set_ne e] at h
    exact ⟨h, Ne.symm e⟩
/-- a slot is stored: data that stands in what is seen -/
theorem OkAt.put (k : OkAt c F H0 Z ρ o σ H) {i : Nat} {v : V} {d : D} (r : Rp c (hid H (hz Z ρ o [])) v d) : OkAt c F H0 Z (ρ.set i (.fz d)) o (σ.set i (some v)) H := by
  have sub : ∀ a, hz Z (ρ.set i (.fz d)) o [] a → hz Z ρ o [] a := fun a h => h.imp id fun ⟨j, n, e, h1, h2, h3⟩ => ⟨j, n, e, (set_ow h1 (fun _ _ z => by cases z)).1, h2, h3⟩
  have e : Gr (hid H (hz Z ρ o [])) (hid H (hz Z (ρ.set i (.fz d)) o [])) := (Gr.refl H).hid2 sub
  refine ⟨by simp [k.len], fun j x h => ?_, fun j n x h => ?_, fun j1 j2 _ _ _ _ h1 h2 q => k.inj j1 j2 _ _ _ _ (set_ow h1 (fun _ _ z => by cases z)).1 (set_ow h2 (fun _ _ z => by cases z)).1 q, k.gr, k.fr.trans e, k.zin⟩
  · by_cases q : i = j
    · subst q
      rw [List.getElem?_set] at h
      split at h
      · split at h
        · rename_i hi
          cases h
          exact ⟨v, by rw [List.getElem?_set_self (by rw [k.len]; exact hi)], r.gr e⟩
        · cases h
      · contradiction
    · rw [List.getElem?_set_ne q] at h
      obtain ⟨w, h1, h2⟩ := k.fz j x h
      exact ⟨w, by rw [List.getElem?_set_ne q]; exact h1, h2.gr e⟩
  · obtain ⟨h1, hne⟩ := set_ow h (fun _ _ z => by cases z)
    obtain ⟨⟨w, h2, t⟩, h3⟩ := k.ow j n x h1
    exact ⟨⟨w, by rw [List.getElem?_set_ne (Ne.symm hne)]; exact h2, t.gr e fun _ _ => rfl⟩, h3⟩
/-- what can't change is seen, whatever is hidden -/
theorem OkAt.nt (k : OkAt c F H0 Z ρ o σ H) (a : Addr) (h : hz Z ρ o [] a) : hz Z ρ o M a ∨ NotT (H a) := h.imp (fun z => .inl z) fun ⟨j, n, e, h1, h2, h3⟩ => by
  obtain ⟨⟨v, _, t⟩, _⟩ := k.ow j n e h1
  exact t.notT h3
theorem OkAt.imm (k : OkAt c F H0 Z ρ o σ H) {v : V} {d : D} (i : Bv.imm d = true) (r : Rp c (hid H (hz Z ρ o M)) v d) : Rp c (hid H (hz Z ρ o [])) v d := Rp.un (fun a h => k.nt a h) i r
theorem OkAt.immA (k : OkAt c F H0 Z ρ o σ H) {vs : List V} {ds : List D} (i : Bv.immA ds = true) (r : RpA c (hid H (hz Z ρ o M)) vs ds) : RpA c (hid H (hz Z ρ o [])) vs ds := RpA.un (fun a h => k.nt a h) i r
/-- a new tree of one's own is stored -/
theorem OkAt.layT (k : OkAt c F H0 Z ρ o σ H) {i n : Nat} {v : V} {U : List Addr} {d : D} (e0 : Gr H H') (hU : ∀ a ∈ U, H a = none) (hi : i < ρ.length) (r : ∀ Hv, Gr (hid H' fun a => hz Z ρ o [] a ∨ a ∈ U) Hv → Tree c Hv H' n v d U) :
    OkAt c F H0 Z (ρ.set i (.ow n d)) (fun j => if j = i then U else o j) (σ.set i (some v)) H' := by
  have hd : hz Z ρ o [] = hz Z ρ o [] := rfl
  have old : ∀ {j m x a}, ρ[j]? = some (Sl.ow m x) → a ∈ o j → a ∉ U := fun {j m x a} h ha z => by
    obtain ⟨⟨w, _, t⟩, _⟩ := k.ow j m x h
    exact t.some ha (hU a z)
  have cases_ : ∀ {j m x}, (ρ.set i (.ow n d))[j]? = some (Sl.ow m x) → (j = i ∧ m = n ∧ x = d) ∨ (j ≠ i ∧ ρ[j]? = some (.ow m x)) := fun {j m x} h => by
    by_cases q : i = j
    · subst q
      rw [List.getElem?_set_self hi] at h
      cases h
      exact .inl ⟨rfl, rfl, rfl⟩
    · rw [List.getElem?_set_ne q] at h
      exact .inr ⟨Ne.symm q, h⟩
  have sub : ∀ a, hz Z (ρ.set i (.ow n d)) (fun j => if j = i then U else o j) [] a → hz Z ρ o [] a ∨ a ∈ U := by
    rintro a (z | ⟨j, m, x, j1, _, j3⟩)
    · exact .inl (.inl z)
    · rcases cases_ j1 with ⟨rfl, _⟩ | ⟨hne, j1⟩
      · simp only [if_true] at j3; exact .inr j3
      · simp only [if_neg hne] at j3; exact .inl (.inr ⟨j, m, x, j1, by simp, j3⟩)
  have e1 : Gr (hid H' fun a => hz Z ρ o [] a ∨ a ∈ U) (hid H' (hz Z (ρ.set i (.ow n d)) (fun j => if j = i then U else o j) [])) := (Gr.refl H').hid2 sub
  have e : Gr (hid H (hz Z ρ o [])) (hid H' (hz Z (ρ.set i (.ow n d)) (fun j => if j = i then U else o j) [])) := fun a w h => by
    obtain ⟨h1, h2⟩ := hid_some h
    rw [hid_no fun z => ?_]
    · exact e0 _ _ h2
    rcases sub a z with z | z
    · exact h1 z
    · rw [hU a z] at h2; cases h2
  refine ⟨by simp [k.len], fun j x h => ?_, fun j m x h => ?_, fun j1 j2 m1 m2 x y h1 h2 q => ?_, k.gr.trans e0, k.fr.trans e, k.zin⟩
  · by_cases q : i = j
    · subst q
      rw [List.getElem?_set_self hi] at h
      cases h
    · rw [List.getElem?_set_ne q] at h
      obtain ⟨w, h1, h2⟩ := k.fz j x h
      exact ⟨w, by rw [List.getElem?_set_ne q]; exact h1, h2.gr e⟩
  · rcases cases_ h with ⟨rfl, rfl, rfl⟩ | ⟨hne, h⟩
    · simp only [if_true]
      refine ⟨⟨v, by rw [List.getElem?_set_self (by rw [k.len]; exact hi)], r _ e1⟩, fun a ha => ⟨k.gr.free (hU a ha), fun z => k.zin.gr k.gr a z (hU a ha)⟩⟩
    · simp only [if_neg hne]
      obtain ⟨⟨w, h2, t⟩, h3⟩ := k.ow j m x h
      refine ⟨⟨w, by rw [List.getElem?_set_ne (Ne.symm hne)]; exact h2, t.gr e fun a ha => ?_⟩, h3⟩
      cases q : H a with
      | none => exact absurd q (t.some ha)
      | some u => exact e0 _ _ q
  · intro a
    rcases cases_ h1 with ⟨e1, _⟩ | ⟨n1, g1⟩
    · rcases cases_ h2 with ⟨e2, _⟩ | ⟨n2, g2⟩
      · exact absurd (e1.trans e2.symm) q
      · simp only [if_pos e1, if_neg n2]
        exact fun h3 h4 => old g2 h4 h3
    · rcases cases_ h2 with ⟨e2, _⟩ | ⟨n2, g2⟩
      · simp only [if_neg n1, if_pos e2]
        exact fun h3 h4 => old g1 h3 h4
      · simp only [if_neg n1, if_neg n2]
        exact k.inj j1 j2 m1 m2 x y g1 g2 q a
/-- a new list of one's own is laid and stored -/
theorem OkAt.lay (k : OkAt c F H0 Z ρ o σ H) {i : Nat} {p : Addr} {vs : List V} {ds : List D} (hp : H p = none) (hi : i < ρ.length) (r : RpA c (hid H (hz Z ρ o [])) vs ds) :
    OkAt c F H0 Z (ρ.set i (.ow 1 (.list ds))) (fun j => if j = i then [p] else o j) (σ.set i (some (.ref p))) (upd H p (.lst vs)) := by
  refine k.layT (Gr.new hp) (fun a ha => by rw [List.mem_singleton.mp ha]; exact hp) hi fun Hv e => ?_
  have e2 : Gr (hid H (hz Z ρ o [])) Hv := Gr.trans (fun a u h => by
    obtain ⟨h1, h2⟩ := hid_some h
    have na : a ≠ p := ne_of_none h2 hp
    rw [hid_no (fun z => z.elim h1 fun z => na (List.mem_singleton.mp z)), upd_ne na]
    exact h2) e
  exact .lst upd_same (TreeA.leaves (RpA.gr e2 r)) (by simp)
/-- one's own tree is changed -/
theorem OkAt.change (k : OkAt c F H0 Z ρ o σ H) {i n : Nat} {d e' : D} {v : V} (hi : ρ[i]? = some (.ow n e')) (hv : σ[i]? = some (some v)) (hH : ∀ a, a ∉ o i → H' a = H a) (r : ∀ Hv, Gr (hid H (hz Z ρ o [])) Hv → Tree c Hv H' n v d (o i)) :
    OkAt c F H0 Z (ρ.set i (.ow n d)) o σ H' := by
  have hl : i < ρ.length := (List.getElem?_eq_some_iff.mp hi).1
  obtain ⟨_, i3⟩ := k.ow i n e' hi
  have cases_ : ∀ {j m x}, (ρ.set i (.ow n d))[j]? = some (Sl.ow m x) → (j = i ∧ m = n ∧ x = d) ∨ (j ≠ i ∧ ρ[j]? = some (.ow m x)) := fun {j m x} h => by
    by_cases q : i = j
    · subst q
      rw [List.getElem?_set_self hl] at h
      cases h
      exact .inl ⟨rfl, rfl, rfl⟩
    · rw [List.getElem?_set_ne q] at h
      exact .inr ⟨Ne.symm q, h⟩
  have e : Gr (hid H (hz Z ρ o [])) (hid H' (hz Z (ρ.set i (.ow n d)) o [])) := fun a w h => by
    obtain ⟨h1, h2⟩ := hid_some h
    have na : a ∉ o i := fun z => h1 (.inr ⟨i, n, e', hi, by simp, z⟩)
    rw [hid_no ?_, hH a na]
    · exact h2
    rintro (z | ⟨j, m, x, j1, _, j3⟩)
    · exact h1 (.inl z)
    · rcases cases_ j1 with ⟨rfl, _⟩ | ⟨hne, j1⟩
      · exact na j3
      · exact h1 (.inr ⟨j, m, x, j1, by simp, j3⟩)
  refine ⟨by simp [k.len], fun j x h => ?_, fun j m x h => ?_, fun j1 j2 m1 m2 x y h1 h2 q => ?_, fun a w h => ?_, k.fr.trans e, k.zin⟩
  · by_cases q : i = j
    · subst q
      rw [List.getElem?_set_self hl] at h
      cases h
    · rw [List.getElem?_set_ne q] at h
      obtain ⟨w, h1, h2⟩ := k.fz j x h
      exact ⟨w, h1, h2.gr e⟩
  · rcases cases_ h with ⟨rfl, rfl, rfl⟩ | ⟨hne, h⟩
    · exact ⟨⟨v, hv, r _ e⟩, i3⟩
    · obtain ⟨⟨w, h2, t⟩, h3⟩ := k.ow j m x h
      exact ⟨⟨w, h2, t.gr e fun a ha => hH a (k.inj j i m n x e' h hi hne a ha)⟩, h3⟩
  · intro a
    rcases cases_ h1 with ⟨e1, _⟩ | ⟨n1, g1⟩
    · rcases cases_ h2 with ⟨e2, _⟩ | ⟨n2, g2⟩
      · exact absurd (e1.trans e2.symm) q
      · subst e1
        exact k.inj _ j2 n m2 e' y hi g2 q a
    · rcases cases_ h2 with ⟨e2, _⟩ | ⟨n2, g2⟩
      · subst e2
        exact k.inj j1 _ m1 n x e' g1 hi q a
      · exact k.inj j1 j2 m1 m2 x y g1 g2 q a
  · rw [hH a fun z => by rw [(i3 a z).1] at h; cases h]
    exact k.gr _ _ h
/-- what stood when one began, kept anew -/
theorem OkAt.keep {F' : Hp} (k : OkAt c F H0 Z ρ o σ H) (e : Gr F' (hid H (hz Z ρ o []))) : OkAt c F' H0 Z ρ o σ H := ⟨k.len, k.fz, k.ow, k.inj, k.gr, e, k.zin⟩
/-- what is seen outside stands -/
theorem OkAt.out (k : OkAt c F H0 Z ρ o σ H) (e : Gr H H') : Gr F (hid H' Z) := k.fr.trans (e.hid2 fun a z => .inl z)
end
end Bv

namespace Bv
open PySem PySem.Spec L2 PyProof.Rows

/-- how a statement ends -/
inductive Res where
  | un | nx (ρ : Env') | rt (d : D) | bk (ρ : Env') | ct (ρ : Env') | xc (x : Xc)
def PostS (S : Sx) (F H0 : Hp) (Z : Addr → Prop) (Dn : Ends) : Res → Prop
  | .un => False
  | .nx ρ => ∀ σ H, Ok S.c F H0 Z ρ σ H → Dn.nx σ H
  | .rt d => ∀ v H U, Gr H0 H → (∀ a ∈ U, H0 a = none) → Tree S.c (hid H fun a => Z a ∨ a ∈ U) H S.tr v d U → Dn.rt v H
  | .bk ρ => ∀ σ H, Ok S.c F H0 Z ρ σ H → Dn.bk σ H
  | .ct ρ => ∀ σ H, Ok S.c F H0 Z ρ σ H → Dn.ct σ H
  | .xc x => ∀ cls dx σ H, Gr H0 H → Gr F (hid H Z) → XcR S.c S.mg (hid H Z) x cls dx → S.W cls dx σ H
abbrev TellsS (S : Sx) (t : TS) (g : Env' → Res) : Prop := ∀ ρ F H0 Z σ H Dn, Ok S.c F H0 Z ρ σ H → PostS S F H0 Z Dn (g ρ) → t Dn σ H
structure SemS (S : Sx) (st : Stmt) (g : Env' → Res) : Prop where
  ex : ∃ t, (∀ X, S.At X → PS X st t) ∧ TellsS S t g
structure SemSs (S : Sx) (st : List Stmt) (g : Env' → Res) : Prop where
  ex : ∃ t, (∀ X, S.At X → PSs X st t) ∧ TellsS S t g

section
variable {S : Sx}
def snext (ρ : Env') : Res := .nx ρ
def sseq (f g : Env' → Res) (ρ : Env') : Res := match f ρ with
  | .nx ρ' => g ρ'
  | r => r
theorem sseq_nx {f g : Env' → Res} {ρ ρ' : Env'} (h : f ρ = .nx ρ') : sseq f g ρ = g ρ' := by unfold sseq; rw [h]
theorem sseq_rt {f g : Env' → Res} {ρ : Env'} {d : D} (h : f ρ = .rt d) : sseq f g ρ = .rt d := by unfold sseq; rw [h]
theorem ss_un {st : Stmt} : SemS S st (fun _ => .un) := ⟨⟨tNever, fun _ _ => ps_never, fun _ _ _ _ _ _ _ _ h => h.elim⟩⟩
theorem sss_un {st : List Stmt} : SemSs S st (fun _ => .un) := ⟨⟨tNever, fun _ _ => pss_never, fun _ _ _ _ _ _ _ _ h => h.elim⟩⟩
theorem sss_nil : SemSs S [] snext := ⟨⟨_, fun _ _ => pss_nil, fun ρ F H0 Z σ H Dn k h => h σ H k⟩⟩
theorem sss_one {st : Stmt} {f : Env' → Res} (h : SemS S st f) : SemSs S [st] f := let ⟨t, p, q⟩ := h.ex; ⟨⟨t, fun X hX => pss_one (p X hX), q⟩⟩
theorem sss_cons {st : Stmt} {rest : List Stmt} {f g : Env' → Res} (h : SemS S st f) (h2 : SemSs S rest g) : SemSs S (st :: rest) (sseq f g) := by
  obtain ⟨t, p, q⟩ := h.ex
  obtain ⟨t2, p2, q2⟩ := h2.ex
  refine ⟨⟨_, fun X hX => pss_cons (p X hX) (p2 X hX), fun ρ F H0 Z σ H Dn k h => ?_⟩⟩
  refine q ρ F H0 Z σ H { Dn with nx := t2 Dn } k ?_
  unfold sseq at h
  cases e : f ρ with
  | nx ρ' =>
    rw [e] at h
    exact fun σ' H' k' => q2 ρ' F H0 Z σ' H' Dn k' h
  | un => rw [e] at h; exact h
  | rt d => rw [e] at h; exact h
  | bk d => rw [e] at h; exact h
  | ct d => rw [e] at h; exact h
  | xc d => rw [e] at h; exact h
theorem ss_pass {pos : Pos} : SemS S (.Pass pos) snext := ⟨⟨_, fun _ _ => ps_pass, fun ρ F H0 Z σ H Dn k h => h σ H k⟩⟩
theorem ss_break {pos : Pos} : SemS S (.Break pos) .bk := ⟨⟨_, fun _ _ => ps_break, fun ρ F H0 Z σ H Dn k h => h σ H k⟩⟩
theorem ss_continue {pos : Pos} : SemS S (.Continue pos) .ct := ⟨⟨_, fun _ _ => ps_continue, fun ρ F H0 Z σ H Dn k h => h σ H k⟩⟩

/-- what an expression's end is to a statement -/
def Rv.st {A : Type} (r : Rv A) (f : A → Res) : Res := match r with | .un => .un | .xc x => .xc x | .ok a => f a
@[simp] theorem Rv.st_ok {A : Type} (a : A) (f : A → Res) : (Rv.ok a).st f = f a := rfl
@[simp] theorem Rv.st_un {A : Type} (f : A → Res) : (Rv.un : Rv A).st f = .un := rfl
@[simp] theorem Rv.st_xc {A : Type} (x : Xc) (f : A → Res) : (Rv.xc x : Rv A).st f = .xc x := rfl
theorem run_e {A B : Type} {R : Hp → A → B → Prop} {F H0 H : Hp} {Z : Addr → Prop} {ρ : Env'} {o : Nat → List Addr} {σ : L2.St} {M : List Nat} {T : A → Hp → Prop} {r : Rv B} {f : B → Res} {Dn : Ends}
    (k : OkAt S.c F H0 Z ρ o σ H) (h : PostS S F H0 Z Dn (r.st f)) (go : ∀ b v H', r = .ok b → OkAt S.c F H0 Z ρ o σ H' → R (hid H' (hz Z ρ o M)) v b → PostS S F H0 Z Dn (f b) → T v H') :
    Post S R σ (hz Z ρ o M) H T r := by
  cases r with
  | un => exact h
  | xc x => exact fun cls dx H' e q => h cls dx σ H' (k.gr.trans e) (k.out e) (q.gr ((Gr.refl H').hid2 fun a z => .inl z))
  | ok b => exact fun v H' e q => go b v H' rfl (k.grow e) q h
def asg (i : Nat) (M : List Nat) (f : Vw → Rv D) (ρ : Env') : Res := (f (vw M ρ)).st fun d => .nx (if imm d = true then ρ.set i (.fz d) else (frz M ρ).set i (.fz d))
theorem OkAt.asg {c : Cz} {F H0 H : Hp} {Z : Addr → Prop} {ρ : Env'} {o : Nat → List Addr} {σ : L2.St} {M : List Nat} (k : OkAt c F H0 Z ρ o σ H) {i : Nat} {v : V} {d : D} (r : Rp c (hid H (hz Z ρ o M)) v d) :
    OkAt c F H0 Z (if Bv.imm d = true then ρ.set i (.fz d) else (Bv.frz M ρ).set i (.fz d)) o (σ.set i (some v)) H := by
  split
  · rename_i hi
    exact k.put (k.imm hi r)
  · exact (k.freeze M).put (by rw [hid_frz]; exact r)
/-- x = e -/
theorem ss_set {i : Nat} {x : Str} {e : Expr} {f : Vw → Rv D} {pos pos' : Pos} (M : List Nat) (he : SemE S e f) (hi : S.N[i]? = some x := by rfl) (hx : L2.Loc S.sc x := by first | exact Or.inl rfl | exact Or.inr rfl) (hst : S.st x = true := by rfl) (hs : ∀ env, swapsWith e (some (.Name x pos')) pos.line env = pure false := by intro _; rfl) : SemS S (.Assign [.Name x pos'] e pos) (asg i M f) := by
  obtain ⟨t, p, q⟩ := he.ex
  refine ⟨⟨_, fun X hX => ps_set hX.nd (by rw [hX.hN]; exact hi) (by rw [hX.hsc]; exact hx) (p X hX) (hs _) (hX.fnl x hx hst), fun ρ F H0 Z σ H Dn ⟨o, k⟩ h => ?_⟩⟩
  refine q (vw M ρ) σ H (hz Z ρ o M) _ k.hin k.view (run_e k h fun d v H' _ k' r h' => ?_)
  exact h' _ _ ⟨o, k'.asg r⟩
def asgF (i : Nat) (M : List Nat) (f : Vw → Rv (List D)) (ρ : Env') : Res := (f (vw M ρ)).st fun ds => if i < ρ.length then .nx (if immA ds = true then ρ.set i (.ow 1 (.list ds)) else (frz M ρ).set i (.ow 1 (.list ds))) else .un
/-- x = a new list -/
theorem ss_setF {i : Nat} {x : Str} {e : Expr} {f : Vw → Rv (List D)} {pos pos' : Pos} (M : List Nat) (he : SemF S e f) (hi : S.N[i]? = some x := by rfl) (hx : L2.Loc S.sc x := by first | exact Or.inl rfl | exact Or.inr rfl) (hst : S.st x = true := by rfl) (hs : ∀ env, swapsWith e (some (.Name x pos')) pos.line env = pure false := by intro _; rfl) : SemS S (.Assign [.Name x pos'] e pos) (asgF i M f) := by
  obtain ⟨t, p, q⟩ := he.ex
  refine ⟨⟨_, fun X hX => ps_set hX.nd (by rw [hX.hN]; exact hi) (by rw [hX.hsc]; exact hx) (p X hX) (hs _) (hX.fnl x hx hst), fun ρ F H0 Z σ H Dn ⟨o, k⟩ h => ?_⟩⟩
  refine q (vw M ρ) σ H (hz Z ρ o M) _ k.hin k.view (run_e (R := fun H' (p : Addr × List V) ds => RpA S.c H' p.2 ds) k h fun ds v H' _ k' r h' hp => ?_)
  split at h'
  · rename_i hl
    by_cases hm : immA ds = true
    · rw [if_pos hm] at h'
      exact h' _ _ ⟨_, k'.lay hp hl (k'.immA hm r)⟩
    · rw [if_neg hm] at h'
      exact h' _ _ ⟨_, (k'.freeze M).lay hp (by rw [frz_length]; exact hl) (by rw [hid_frz]; exact r)⟩
  · exact False.elim h'
def ret (M : List Nat) (f : Vw → Rv D) (ρ : Env') : Res := (f (vw M ρ)).st fun d => .rt d
theorem hid_or {H : Hp} {Z : Addr → Prop} : hid H (fun a => Z a ∨ a ∈ ([] : List Addr)) = hid H Z := by
  have : (fun a => Z a ∨ a ∈ ([] : List Addr)) = Z := funext fun a => propext (by simp)
  rw [this]
theorem Tree.of0 {c : Cz} {H : Hp} {Z : Addr → Prop} {n : Nat} {v : V} {d : D} (h0 : n = 0 ∨ imm d = true) (r : Rp c (hid H Z) v d) : Tree c (hid H fun a => Z a ∨ a ∈ ([] : List Addr)) H n v d [] := by
  rw [hid_or]
  rcases h0 with rfl | h0
  · exact .leaf0 r
  · exact .leaf h0 r
theorem ss_ret {e : Expr} {f : Vw → Rv D} {pos : Pos} (M : List Nat) (he : SemE S e f) (ht : S.tr = 0 := by rfl) : SemS S (.Return (some e) pos) (ret M f) := by
  obtain ⟨t, p, q⟩ := he.ex
  refine ⟨⟨_, fun X hX => ps_ret (p X hX), fun ρ F H0 Z σ H Dn ⟨o, k⟩ h => ?_⟩⟩
  refine q (vw M ρ) σ H (hz Z ρ o M) _ k.hin k.view (run_e k h fun d v H' _ k' r h' => ?_)
  exact h' v H' [] k'.gr (fun a h => by cases h) (Tree.of0 (.inl ht) (r.gr ((Gr.refl H').hid2 fun a z => .inl z)))
/-- .. what can't change, from a def that promises more -/
def retI (M : List Nat) (f : Vw → Rv D) (ρ : Env') : Res := (f (vw M ρ)).st fun d => if imm d = true then .rt d else .un
theorem ss_retI {e : Expr} {f : Vw → Rv D} {pos : Pos} (M : List Nat) (he : SemE S e f) : SemS S (.Return (some e) pos) (retI M f) := by
  obtain ⟨t, p, q⟩ := he.ex
  refine ⟨⟨_, fun X hX => ps_ret (p X hX), fun ρ F H0 Z σ H Dn ⟨o, k⟩ h => ?_⟩⟩
  refine q (vw M ρ) σ H (hz Z ρ o M) _ k.hin k.view (run_e k h fun d v H' _ k' r h' => ?_)
  split at h'
  · rename_i hi
    exact h' v H' [] k'.gr (fun a h => by cases h) (Tree.of0 (.inr hi) (r.gr ((Gr.refl H').hid2 fun a z => .inl z)))
  · exact False.elim h'
theorem ss_retN {pos : Pos} : SemS S (.Return none pos) (fun _ => .rt .none) := ⟨⟨_, fun _ _ => ps_retN, fun ρ F H0 Z σ H Dn ⟨o, k⟩ h => h .non H [] k.gr (fun a h => by cases h) (.leaf rfl .non)⟩⟩
def drp (M : List Nat) (f : Vw → Rv D) (ρ : Env') : Res := (f (vw M ρ)).st fun _ => .nx ρ
theorem ss_expr {e : Expr} {f : Vw → Rv D} {pos : Pos} (M : List Nat) (he : SemE S e f) (hs : ∀ env, swapsWith e none pos.line env = pure false := by intro _; rfl) : SemS S (.Expr e pos) (drp M f) := by
  obtain ⟨t, p, q⟩ := he.ex
  refine ⟨⟨_, fun X hX => ps_expr (p X hX) (hs _), fun ρ F H0 Z σ H Dn ⟨o, k⟩ h => ?_⟩⟩
  refine q (vw M ρ) σ H (hz Z ρ o M) _ k.hin k.view (run_e k h fun d v H' _ k' r h' => ?_)
  exact h' σ H' ⟨o, k'⟩
def sif (M : List Nat) (c : Vw → Rv Bool) (f g : Env' → Res) (ρ : Env') : Res := (c (vw M ρ)).st fun b => if b = true then f ρ else g ρ
theorem ss_if {c : Expr} {a b : List Stmt} {fc : Vw → Rv Bool} {f g : Env' → Res} {pos : Pos} (M : List Nat) (hc : SemT S c fc) (ha : SemSs S a f) (hb : SemSs S b g) : SemS S (.If c a b pos) (sif M fc f g) := by
  obtain ⟨t, p, q⟩ := hc.ex
  obtain ⟨t1, p1, q1⟩ := ha.ex
  obtain ⟨t2, p2, q2⟩ := hb.ex
  refine ⟨⟨_, fun X hX => ps_if (p X hX) (p1 X hX) (p2 X hX), fun ρ F H0 Z σ H Dn ⟨o, k⟩ h => ?_⟩⟩
  refine q (vw M ρ) σ H (hz Z ρ o M) _ k.hin k.view (run_e (R := RT) k h fun d v H' _ k' r h' => ?_)
  cases (show v = d from r)
  cases d with
  | true => exact q1 ρ F H0 Z σ H' Dn ⟨o, k'⟩ h'
  | false => exact q2 ρ F H0 Z σ H' Dn ⟨o, k'⟩ h'
/-- a, b, .. = e: a tuple's parts into names -/
def setAll : List Nat → List D → Env' → Option Env'
  | [], [], ρ => some ρ
  | i :: is, d :: ds, ρ => setAll is ds (ρ.set i (.fz d))
  | _, _, _ => none
def untup (is : List Nat) (M : List Nat) (f : Vw → Rv D) (ρ : Env') : Res := (f (vw M ρ)).st fun d => match d with
  | .tuple ds => match setAll is ds (if immA ds = true then ρ else frz M ρ) with | some ρ' => .nx ρ' | none => .un
  | _ => .un
/-- targets that are names -/
def gNames : List Nat → TGs
  | [] => gNil
  | i :: is => gCons (gName i) (gNames is)
structure SemG (S : Sx) (ts : List Expr) (is : List Nat) : Prop where
  ex : ∀ X, S.At X → PGs X ts (gNames is)
theorem sg_nil : SemG S [] [] := ⟨fun _ _ => pgs_nil⟩
theorem sg_cons {x : Str} {pos : Pos} {ts : List Expr} {is : List Nat} (i : Nat) (h : SemG S ts is) (hi : S.N[i]? = some x := by rfl) (hx : L2.Loc S.sc x := by first | exact Or.inl rfl | exact Or.inr rfl) (hst : S.st x = true := by rfl)
    (hs : ∀ env, (assignEach ((.Name x pos) :: ts) env).map (·.2) = assign (.Name x pos) env :: (assignEach ts env).map (·.2) := by intro _; rfl) : SemG S ((.Name x pos) :: ts) (i :: is) :=
  ⟨fun X hX => pgs_cons (pg_name hX.nd (by rw [hX.hN]; exact hi) (by rw [hX.hsc]; exact hx) (hX.fnl x hx hst)) (h.ex X hX) (hs _)⟩
theorem setAll_run {c : Cz} {F H0 H : Hp} {Z : Addr → Prop} {Q : L2.St → Hp → Prop} {o : Nat → List Addr} : ∀ {is : List Nat} {ds : List D} {vs : List V} {ρ ρ' : Env'} {σ : L2.St}, OkAt c F H0 Z ρ o σ H → RpA c F vs ds → setAll is ds ρ = some ρ' → (∀ σ', OkAt c F H0 Z ρ' o σ' H → Q σ' H) →
    gNames is vs σ H Q
  | [], [], _, ρ, ρ', σ, k, r, e, q => by
    cases r
    cases e
    exact ⟨rfl, q σ k⟩
  | i :: is, d :: ds, _, ρ, ρ', σ, k, r, e, q => by
    cases r with
    | @cons v vs _ _ r1 r2 => exact ⟨v, vs, rfl, setAll_run (ρ := ρ.set i (.fz d)) (k.put (r1.gr k.fr)) r2 e q⟩
  | [], _ :: _, _, _, _, _, _, _, e, _ => by cases e
  | _ :: _, [], _, _, _, _, _, _, e, _ => by cases e
theorem ss_untup {ts : List Expr} {kt : Nat} {is : List Nat} {e : Expr} {f : Vw → Rv D} {pos pt : Pos} (M : List Nat) (hg : SemG S ts is) (he : SemE S e f)
    (hn : ∀ env, (assignEach ts env).length = is.length := by intro _; rfl) (hst : ∀ env, (assignEach ts env).findIdx? (·.1) = none := by intro _; rfl)
    (hs : ∀ env, swapsWithSole [.Tuple ts kt pt] e pos.line env = pure false := by intro _; rfl) (hw : ∀ env, swappedStores [.Tuple ts kt pt] e env = pure none := by intro _; rfl)
    (h1 : ∀ env, (assignEach [.Tuple ts kt pt] env).map (·.2) = [assign (.Tuple ts kt pt) env] := by intro _; rfl) : SemS S (.Assign [.Tuple ts kt pt] e pos) (untup is M f) := by
  obtain ⟨t, p, q⟩ := he.ex
  refine ⟨⟨tAsg t (gTup S.K is.length (gNames is)), fun X hX => ?_, fun ρ F H0 Z σ H Dn ⟨o, k⟩ h => ?_⟩⟩
  · rw [← hX.hK]
    exact ps_asg (p X hX) (pg_tup (n := is.length) hX.calm (hg.ex X hX) (hn _) (hst _)) (hs _) (hw _) (h1 _)
  refine q (vw M ρ) σ H (hz Z ρ o M) _ k.hin k.view (run_e k h fun d v H' _ k' r h' => ?_)
  cases r with
  | @tup a xs ds r1 r2 =>
    have len : ∀ {is : List Nat} {ds : List D} {ρ ρ' : Env'}, setAll is ds ρ = some ρ' → is.length = ds.length := by
      intro is
      induction is with
      | nil => intro ds ρ ρ' e; cases ds <;> first | rfl | cases e
      | cons i is ih => intro ds ρ ρ' e; cases ds with | nil => cases e | cons d ds => simp [ih (by simpa [setAll] using e)]
    cases es : setAll is ds (if immA ds = true then ρ else frz M ρ) with
    | none => simp only [es] at h'; exact False.elim h'
    | some ρ' =>
      simp only [es] at h'
      have hl := len es
      refine ⟨a, xs, rfl, (Gr.hid_le _ _).sqT r1, by rw [RpA.length r2, hl], ?_⟩
      by_cases hm : immA ds = true
      · rw [if_pos hm] at es
        exact setAll_run (k'.keep (Gr.refl _)) (k'.immA hm r2) es fun σ' k2 => h' σ' H' ⟨o, k2.keep (k'.fr.trans k2.fr)⟩
      · rw [if_neg hm] at es
        have k3 := k'.freeze M
        exact setAll_run (k3.keep (Gr.refl _)) (by rw [hid_frz]; exact r2) es fun σ' k2 => h' σ' H' ⟨o, k2.keep (k3.fr.trans k2.fr)⟩
  | _ => exact False.elim h'
/-! ### x.append(e), x a list of one's own -/
/-- what may be put into a list of n levels -/
def putOk (n : Nat) (d : D) : Bool := imm d || (n == 0)
def app (j : Nat) (M : List Nat) (f : Vw → Rv D) (ρ : Env') : Res := match ρ[j]? with
  | some (.ow (n + 1) (.list xs)) => (f (vw M ρ)).st fun d => if xs.length < 16000000 ∧ (imm d = true ∨ (n = 0 ∧ M.contains j = false)) then .nx ((if imm d = true then ρ else frz M ρ).set j (.ow (n + 1) (.list (xs ++ [d])))) else .un
  | _ => .un
theorem TreeA.length {c : Cz} {Hv H : Hp} {n : Nat} {vs : List V} : ∀ {ds : List D} {U : List Addr}, TreeA c Hv H n vs ds U → vs.length = ds.length := by
  induction vs with
  | nil => intro ds U h; cases h; rfl
  | cons v vs ih => intro ds U h; cases h with | cons h1 h2 h3 => simp [ih h2]
theorem TreeA.snoc {c : Cz} {Hv H : Hp} {n : Nat} {v : V} {d : D} (hd : Tree c Hv H n v d []) {vs : List V} : ∀ {ds : List D} {U : List Addr}, TreeA c Hv H n vs ds U → TreeA c Hv H n (vs ++ [v]) (ds ++ [d]) U := by
  induction vs with
  | nil =>
    intro ds U h
    cases h
    exact .cons (U := []) (W := []) hd .nil (fun a h => by cases h)
  | cons w vs ih => intro ds U h; cases h with | cons h1 h2 h3 => exact .cons h1 (ih h2) h3
theorem Tree.isL {c : Cz} {Hv H : Hp} {n : Nat} {v : V} {ds : List D} {U : List Addr} (t : Tree c Hv H (n + 1) v (.list ds) U) : ∃ a xs W, v = .ref a ∧ U = a :: W ∧ H a = Option.some (.lst xs) ∧ TreeA c Hv H n xs ds W ∧ a ∉ W := by
  cases t with
  | leaf i _ => simp [imm] at i
  | lst h1 h2 h3 => exact ⟨_, _, _, rfl, rfl, h1, h2, h3⟩
theorem ss_app {j : Nat} {x : Str} {e : Expr} {f : Vw → Rv D} {p1 p2 p3 p4 : Pos} (M : List Nat) (he : SemE S e f) (hN : S.N[j]? = some x := by rfl) (hv : Vis S.sc x := by first | exact Or.inl rfl | exact Or.inr (Or.inl rfl) | exact Or.inr (Or.inr rfl)) (hd : (x == ("__debug__" : Str)) = false := by decide)
    (hcd : (x == ("__classdict__" : Str)) = false := by decide) (hbase : ∀ env, attributeBase (.Name x p1) "append" env (eval (.Name x p1) env) = eval (.Name x p1) env := by intro _; rfl)
    (hfew : ∀ env, ((backTo p3 (starEach [e] env)).all (fun x => !x.1) && (backToKw p3 (keywordEach [] env)).all (fun x => x.1.isSome)
      && decide (([e] : List Expr).length + ([] : List Keyword).length + (if ([] : List Keyword).isEmpty then 0 else 1) < 30)) = true := by intro _; rfl)
    (hline : (p2.endLine == p3.line) = true := by rfl) (hs : ∀ env, starEach [e] env = (false, eval e env) :: starEach [] env := by intro _; rfl) (hplain : ∀ env, (backTo p3 (starEach [] env)).any (·.1) = false := by intro _; rfl)
    (hsw : ∀ env, swapsWith (.Call (.Attribute (.Name x p1) "append" p2) [e] [] p3) none p4.line env = pure false := by intro _; rfl) : SemS S (.Expr (.Call (.Attribute (.Name x p1) "append" p2) [e] [] p3) p4) (app j M f) := by
  obtain ⟨t, p, q⟩ := he.ex
  refine ⟨⟨tDrop (tBM S.K "list" rAppend (tVar j) (tCons t tNil)), fun X hX => ?_, fun ρ F H0 Z σ H Dn ⟨o, k⟩ h => ?_⟩⟩
  · rw [← hX.hK]
    exact ps_expr (pe_bm PySem.F.plainAttrs_list PySem.F.slot_list_append PySem.F.type_list_append mt_append (pe_var (by rw [hX.hN]; exact hN) (by rw [hX.hsc]; exact hv) hd hcd) (pa_cons (p X hX) pa_nil (hs _)) (hbase _) (hfew _) hline (hs _) (hplain _)) (hsw _)
  unfold app at h
  split at h
  · rename_i n xs hj
    obtain ⟨⟨v0, s1, tr⟩, s2⟩ := k.ow j _ _ hj
    obtain ⟨a, vs, W, rfl, hU, s4, s5, s6⟩ := tr.isL
    refine ⟨_, s1, .inl ⟨rfl, vs, .inl (.inl s4)⟩, ?_⟩
    refine q (vw M ρ) σ H (hz Z ρ o M) _ k.hin k.view (run_e k h fun d v H' e k' r h' => ?_)
    obtain ⟨⟨v0', s1', tr'⟩, s2'⟩ := k'.ow j _ _ hj
    rw [s1] at s1'
    cases s1'
    obtain ⟨a', vs', W', ea, hU', w4, w5, w6⟩ := tr'.isL
    cases ea
    rw [hU'] at hU
    cases hU
    have hl := TreeA.length w5
    split at h'
    · rename_i hlt
      refine ⟨a, vs', v, rfl, rfl, w4, line_gt (by omega), ?_⟩
      have hne : ∀ b, b ∉ o j → upd H' a (.lst (vs' ++ [v])) b = H' b := fun b hb => upd_ne fun z => hb (by rw [hU', z]; exact List.mem_cons_self)
      have hW : ∀ b ∈ W, upd H' a (.lst (vs' ++ [v])) b = H' b := fun b hb => upd_ne fun z => w6 (z ▸ hb)
      refine h' _ _ ⟨o, ?_⟩
      split
      · rename_i hm
        refine k'.change hj s1 hne fun Hv e => ?_
        rw [hU']
        exact .lst upd_same (TreeA.snoc (.leaf hm ((k'.imm hm r).gr e)) (TreeA.gr e hW w5)) w6
      · rename_i hm
        obtain ⟨rfl, hc⟩ := hlt.2.resolve_left hm
        refine (k'.freeze M).change (frz_of hj (by simpa using hc)) s1 hne fun Hv e => ?_
        rw [hU']
        rw [hid_frz] at e
        exact .lst upd_same (TreeA.snoc (.leaf0 (r.gr e)) (TreeA.gr (((Gr.refl H').hid2 fun a => hz_nil).trans e) hW w5)) w6
    · exact False.elim h'
  · exact False.elim h
end
end Bv

namespace Bv
open PySem PySem.Spec L2 PyProof.Rows

/-! ### a def's contract (no repr under way around it) -/
structure FnG (P : Program) (w : World) (K : PySem.W.Frag) (mg : Str → Option Value) (base : Heap) (k : Nat) (f : Addr) (fd : FuncData) (ps : List Str) (sp : Sp) : Prop where
  len : ∀ vs H Q E, sp vs H Q E → vs.length = ps.length
  run : ∀ (A : Around) (outer : List Env) (s : Shared) (H : Hp) (args : Args) (us : List Value) (vs : List V) (Q : VK) (E : XK), A.guards = some [] → Room k A → Env0 P w K mg base A outer s H → BindsTo s fd args (ps.zip us) → Vals vs us → sp vs H Q E →
    codeAny (model P w) A (.call (.ref f) args) (CR (L2.CX P w) outer P w H s Q E) s
theorem FnG.mono {P : Program} {w : World} {K : PySem.W.Frag} {mg : Str → Option Value} {base : Heap} {j k : Nat} {f : Addr} {fd : FuncData} {ps : List Str} {sp : Sp} (F : FnG P w K mg base j f fd ps sp) (h : j ≤ k) : FnG P w K mg base k f fd ps sp :=
  ⟨F.len, fun A outer s H args us vs Q E hg hr => F.run A outer s H args us vs Q E hg (hr.mono h)⟩
/-- what a call is to promise, told of data -/
def PostD (c : Cz) (mg : Str → Option Value) (E : XK) (Z : Addr → Prop) (H : Hp) (Q : VK) : Rv D → Prop
  | .un => False
  | .ok d => ∀ v H', Gr H H' → Rp c (hid H' Z) v d → Q v H'
  | .xc x => ∀ cls dx H', Gr H H' → XcR c mg (hid H' Z) x cls dx → E cls dx H'
def spD (c : Cz) (mg : Str → Option Value) (n : Nat) (g : List D → Rv D) : Sp := fun vs H Q E => ∃ (Z : Addr → Prop) (ds : List D), vs.length = n ∧ In Z H ∧ RpA c (hid H Z) vs ds ∧ PostD c mg E Z H Q (g ds)
/-- .. and a tree of one's own, n lists deep -/
def PostDT (c : Cz) (mg : Str → Option Value) (tr : Nat) (E : XK) (Z : Addr → Prop) (H : Hp) (Q : VK) : Rv D → Prop
  | .un => False
  | .ok d => ∀ v H' U, Gr H H' → (∀ a ∈ U, H a = none) → Tree c (hid H' fun a => Z a ∨ a ∈ U) H' tr v d U → Q v H'
  | .xc x => ∀ cls dx H', Gr H H' → XcR c mg (hid H' Z) x cls dx → E cls dx H'
def spT (c : Cz) (mg : Str → Option Value) (n tr : Nat) (g : List D → Rv D) : Sp := fun vs H Q E => ∃ (Z : Addr → Prop) (ds : List D), vs.length = n ∧ In Z H ∧ RpA c (hid H Z) vs ds ∧ PostDT c mg tr E Z H Q (g ds)
theorem Tree.rpZ {c : Cz} {H H' : Hp} {Z : Addr → Prop} {tr : Nat} {v : V} {d : D} {U : List Addr} (z : In Z H) (hU : ∀ a ∈ U, H a = none) (t : Tree c (hid H' fun a => Z a ∨ a ∈ U) H' tr v d U) : Rp c (hid H' Z) v d :=
  t.rp ((Gr.refl H').hid2 fun a h => .inl h) fun a ha => hid_no fun h => z a h (hU a ha)
theorem FnG.weak {P : Program} {w : World} {K : PySem.W.Frag} {mg : Str → Option Value} {base : Heap} {k : Nat} {f : Addr} {fd : FuncData} {ps : List Str} {n tr : Nat} {g : List D → Rv D} (F : FnG P w K mg base k f fd ps (spT ⟨P, w, K, mg⟩ mg n tr g)) (hn : ps.length = n) : FnG P w K mg base k f fd ps (spD ⟨P, w, K, mg⟩ mg n g) := by
  refine ⟨fun vs H Q E ⟨Z, ds, h, _⟩ => h.trans hn.symm, fun A outer s H args us vs Q E hg hr e0 hb r ⟨Z, ds, h1, h2, h3, h4⟩ => F.run A outer s H args us vs Q E hg hr e0 hb r ⟨Z, ds, h1, h2, h3, ?_⟩⟩
  cases e : g ds with
  | un => rw [e] at h4; exact h4
  | xc x => rw [e] at h4; exact h4
  | ok d => rw [e] at h4; exact fun v H' U e1 hU t => h4 v H' e1 (t.rpZ h2 hU)
/-- a function of the text, linked: its address, its contract -/
structure Lk (T : Wd) (k : Nat) (x : Str) (n : Nat) (g : List D → Rv D) : Prop where
  ex : ∃ (f : Addr) (fd : FuncData) (ps : List Str), FnG T.P T.w T.K T.mg T.base k f fd ps (spD T.c T.mg n g) ∧ T.mg x = some (.ref f) ∧ PySem.W.keepIn T.K (.ref f) = true ∧ Binds T.K fd ps []
theorem Lk.mono {T : Wd} {j k : Nat} {x : Str} {n : Nat} {g : List D → Rv D} (F : Lk T j x n g) (h : j ≤ k) : Lk T k x n g :=
  let ⟨f, fd, ps, h1, h2, h3, h4⟩ := F.ex; ⟨f, fd, ps, h1.mono h, h2, h3, h4⟩

section
variable {X : Cx} {S : Sx}
theorem run_fnG {k : Nat} {f : Addr} {fd : FuncData} {ps : List Str} {sp : Sp} {E : XK} {pins : List (Addr × Obj)} {σ : L2.St} {H : Hp} {s : Shared} {Q : VK} {us : List Value} {vs : List V}
    (F : FnG X.prog X.w X.K X.mg X.base k f fd ps sp) (hgd : X.A.guards = some []) (hr : Room k X.A) (hb : Binds X.K fd ps []) (hx : PassesAt (L2.CX X.prog X.w) X σ E) (I : Inv X pins σ H s) (r : Vals vs us) (h : sp vs H Q E) :
    wpAny (model X.prog X.w) X.A (call (.ref f) us) (EP X pins σ Q) X.xe s := by
  have hl : (us ++ []).length = ps.length := by rw [List.append_nil, ← r.length]; exact F.len _ _ _ _ h
  have hb2 := hb s us I.kIn hl
  rw [List.append_nil] at hb2
  have go := F.run X.A X.stack s H ⟨us, []⟩ us vs Q E hgd hr I.env0 hb2 r h
  refine wpAny_call (codeAny_mono go ?_)
  intro r s' hq
  match r, hq with
  | .error e, hq => exact hx pins H s e s' I hq
  | .ok (.ret u), hq => exact I.after hq
def cal (g : List D → Rv D) (fa : Vw → Rv (List D)) (η : Vw) : Rv D := (fa η).bind g
/-- a def's end as the caller meets it -/
theorem post_call {σ : L2.St} {Z : Addr → Prop} {H : Hp} {Q : VK} {r : Rv D} (h : Post S (RE S) σ Z H Q r) : PostD S.c S.mg (WE S.W σ) Z H Q r := by
  cases r with
  | un => exact h
  | ok d => exact h
  | xc y => exact h
theorem se_call {k n : Nat} {x : Str} {g : List D → Rv D} {e : Expr} {es : List Expr} {fa : Vw → Rv (List D)} {p pos : Pos} (F : Lk S.toWd k x n g) (ha : SemA S (e :: es) fa) (hlen : ∀ η ds, fa η = .ok ds → ds.length = n) (hk : Nat.ble k S.k = true := by rfl)
    (hg : S.sc.names.lookup x = some .globalImplicit := by rfl) (hdb : (x == ("__debug__" : Str)) = false := by decide) (he : ∀ env, starEach (e :: es) env = (false, eval e env) :: starEach es env := by intro _; rfl)
    (hpl : ∀ env, (backTo pos (starEach es env)).any (·.1) = false := by intro _; rfl) : SemE S (.Call (.Name x p) (e :: es) [] pos) (cal g fa) := by
  obtain ⟨f, fd, ps, F, hm, hkp, hb⟩ := F.ex
  obtain ⟨t, pa, q⟩ := ha.ex
  refine ⟨⟨fun σ H Q => t σ H fun vs H1 => spD S.c S.mg n g vs H1 Q (WE S.W σ), fun X hX => ⟨fun pins s σ H Q I h => ?_⟩, fun η σ H Z Q z hη h => ?_⟩⟩
  · have hg' : Gl X x := by show X.env.scope.names.lookup x = _; rw [hX.hsc]; exact hg
    refine wpAny_Call_Name_kw (ld_glob I hg' (by rw [hX.hmg]; exact hm) ?_ hdb)
    refine PySem.W.callWith_K (h₀ := X.base) I.ok.mod.kin (by rw [hX.hK]; exact hkp) (thn ((pa X hX).run pos pins s σ H _ I h) ?_) (he _) (hpl _)
    intro us s1 ⟨vs, H1, I1, r, q1⟩
    refine ⟨I1.kIn, run_fnG ?_ hX.gd (hX.hr.mono (Nat.le_of_ble_eq_true hk)) (by rw [hX.hK]; exact hb) (passAt hX.tk σ) I1 r q1⟩
    rw [hX.hP, hX.hw, hX.hK, hX.hmg, hX.hb]
    exact F
  · refine q η σ H Z _ z hη (Post.bind h fun ds vs H1 ed e1 r1 h1 => ?_)
    exact ⟨Z, ds, by rw [RpA.length r1, hlen η ds ed], z.gr e1, r1, post_call h1⟩
theorem se_call0 {k : Nat} {x : Str} {g : List D → Rv D} {p pos : Pos} (F : Lk S.toWd k x 0 g) (hk : Nat.ble k S.k = true := by rfl)
    (hg : S.sc.names.lookup x = some .globalImplicit := by rfl) (hdb : (x == ("__debug__" : Str)) = false := by decide) : SemE S (.Call (.Name x p) [] [] pos) (fun _ => g []) := by
  obtain ⟨f, fd, ps, F, hm, hkp, hb⟩ := F.ex
  refine ⟨⟨fun σ H Q => spD S.c S.mg 0 g [] H Q (WE S.W σ), fun X hX => ⟨fun pins s σ H Q I h => ?_⟩, fun η σ H Z Q z hη h => ⟨Z, [], rfl, z, .nil, post_call h⟩⟩⟩
  have hg' : Gl X x := by show X.env.scope.names.lookup x = _; rw [hX.hsc]; exact hg
  refine wpAny_Call_Name_kw (ld_glob I hg' (by rw [hX.hmg]; exact hm) ?_ hdb)
  refine PySem.W.callWith_K0 I.kIn (by rw [hX.hK]; exact hkp) (run_fnG (us := []) ?_ hX.gd (hX.hr.mono (Nat.le_of_ble_eq_true hk)) (by rw [hX.hK]; exact hb) (passAt hX.tk σ) I .nil h)
  rw [hX.hP, hX.hw, hX.hK, hX.hmg, hX.hb]
  exact F
theorem acons_len {f : Vw → Rv D} {g : Vw → Rv (List D)} {n : Nat} (h : ∀ η ds, g η = .ok ds → ds.length = n) : ∀ η ds, acons f g η = .ok ds → ds.length = n + 1 := by
  intro η ds e
  unfold acons at e
  cases ef : f η with
  | un => rw [ef] at e; cases e
  | xc x => rw [ef] at e; cases e
  | ok a =>
    rw [ef] at e
    cases eg : g η with
    | un => rw [eg] at e; cases e
    | xc x => rw [eg] at e; cases e
    | ok b =>
      rw [eg] at e
      cases e
      simp [h η b eg]
theorem anil_len : ∀ η ds, anil η = .ok ds → ds.length = 0 := fun _ _ e => by cases e; rfl

/-! ### calls of what is built in -/
def OpN (S : Sx) (r : List V → Hp → VK → Prop) (g : List D → Rv D) : Prop :=
  ∀ xs ds H Z Q σ, In Z H → RpA S.c (hid H Z) xs ds → Post S (RE S) σ Z H Q (g ds) → r xs H Q
theorem cb_run {r : List V → Hp → VK → Prop} {g : List D → Rv D} {fa : Vw → Rv (List D)} {t : TA} (hr : OpN S r g) (q : Tells S (RA S) t fa) : Tells S (RE S) (tCB r t) (cal g fa) := by
  intro η σ H Z Q z hη h
  exact q η σ H Z _ z hη (Post.bind h fun ds vs H1 _ e1 r1 h1 => hr vs ds H1 Z Q σ (z.gr e1) r1 h1)
theorem se_callB {id : String} {x : Str} {r : List V → Hp → VK → Prop} {g : List D → Rv D} {e : Expr} {es : List Expr} {fa : Vw → Rv (List D)} {p pos : Pos} (hc : ∀ X, S.At X → CallR X (.builtin id) r) (hr : OpN S r g) (hm : S.mg x = none) (hv : bootBuiltins x = some (.builtin id)) (ha : SemA S (e :: es) fa)
    (hg : S.sc.names.lookup x = some .globalImplicit := by rfl) (hn : x ≠ "__name__" := by decide) (hdb : (x == ("__debug__" : Str)) = false := by decide) (he : ∀ env, starEach (e :: es) env = (false, eval e env) :: starEach es env := by intro _; rfl) (hpl : ∀ env, (backTo pos (starEach es env)).any (·.1) = false := by intro _; rfl) :
    SemE S (.Call (.Name x p) (e :: es) [] pos) (cal g fa) := by
  obtain ⟨t, pa, q⟩ := ha.ex
  exact ⟨⟨_, fun X hX => pe_callB (hc X hX) (by show X.env.scope.names.lookup x = _; rw [hX.hsc]; exact hg) (by rw [hX.hmg]; exact hm) hv (pa X hX) hn hdb (he _) (hpl _), cb_run hr q⟩⟩
theorem se_callTy {T : String} {x : Str} {r : List V → Hp → VK → Prop} {g : List D → Rv D} {e : Expr} {es : List Expr} {fa : Vw → Rv (List D)} {p pos : Pos} (hc : ∀ X, S.At X → CallR X (.type T) r) (hr : OpN S r g) (hm : S.mg x = none) (hv : bootBuiltins x = some (.type T)) (ha : SemA S (e :: es) fa)
    (hg : S.sc.names.lookup x = some .globalImplicit := by rfl) (hn : x ≠ "__name__" := by decide) (hdb : (x == ("__debug__" : Str)) = false := by decide) (he : ∀ env, starEach (e :: es) env = (false, eval e env) :: starEach es env := by intro _; rfl) (hpl : ∀ env, (backTo pos (starEach es env)).any (·.1) = false := by intro _; rfl) :
    SemE S (.Call (.Name x p) (e :: es) [] pos) (cal g fa) := by
  obtain ⟨t, pa, q⟩ := ha.ex
  exact ⟨⟨_, fun X hX => pe_callTy (hc X hX) (by show X.env.scope.names.lookup x = _; rw [hX.hsc]; exact hg) (by rw [hX.hmg]; exact hm) hv (pa X hX) hn hdb (he _) (hpl _), cb_run hr q⟩⟩
/-- .. that make a new list -/
def OpNF (S : Sx) (r : List V → Hp → VK → Prop) (g : List D → Rv (List D)) : Prop :=
  ∀ xs ds H Z Q σ, In Z H → RpA S.c (hid H Z) xs ds → Post S (fun H' (p : Addr × List V) ds => RpA S.c H' p.2 ds) σ Z H (fun p H' => H' p.1 = none → Q (.ref p.1) (upd H' p.1 (.lst p.2))) (g ds) → r xs H Q
def calF (g : List D → Rv (List D)) (fa : Vw → Rv (List D)) (η : Vw) : Rv (List D) := (fa η).bind g
theorem cbF_run {r : List V → Hp → VK → Prop} {g : List D → Rv (List D)} {fa : Vw → Rv (List D)} {t : TA} (hr : OpNF S r g) (q : Tells S (RA S) t fa) : TellsF S (tCB r t) (calF g fa) := by
  intro η σ H Z Q z hη h
  exact q η σ H Z _ z hη (Post.bind h fun ds vs H1 _ e1 r1 h1 => hr vs ds H1 Z Q σ (z.gr e1) r1 h1)
theorem sf_callB {id : String} {x : Str} {r : List V → Hp → VK → Prop} {g : List D → Rv (List D)} {e : Expr} {es : List Expr} {fa : Vw → Rv (List D)} {p pos : Pos} (hc : ∀ X, S.At X → CallR X (.builtin id) r) (hr : OpNF S r g) (hm : S.mg x = none) (hv : bootBuiltins x = some (.builtin id)) (ha : SemA S (e :: es) fa)
    (hg : S.sc.names.lookup x = some .globalImplicit := by rfl) (hn : x ≠ "__name__" := by decide) (hdb : (x == ("__debug__" : Str)) = false := by decide) (he : ∀ env, starEach (e :: es) env = (false, eval e env) :: starEach es env := by intro _; rfl) (hpl : ∀ env, (backTo pos (starEach es env)).any (·.1) = false := by intro _; rfl) :
    SemF S (.Call (.Name x p) (e :: es) [] pos) (calF g fa) := by
  obtain ⟨t, pa, q⟩ := ha.ex
  exact ⟨⟨_, fun X hX => pe_callB (hc X hX) (by show X.env.scope.names.lookup x = _; rw [hX.hsc]; exact hg) (by rw [hX.hmg]; exact hm) hv (pa X hX) hn hdb (he _) (hpl _), cbF_run hr q⟩⟩
theorem sf_callTy {T : String} {x : Str} {r : List V → Hp → VK → Prop} {g : List D → Rv (List D)} {e : Expr} {es : List Expr} {fa : Vw → Rv (List D)} {p pos : Pos} (hc : ∀ X, S.At X → CallR X (.type T) r) (hr : OpNF S r g) (hm : S.mg x = none) (hv : bootBuiltins x = some (.type T)) (ha : SemA S (e :: es) fa)
    (hg : S.sc.names.lookup x = some .globalImplicit := by rfl) (hn : x ≠ "__name__" := by decide) (hdb : (x == ("__debug__" : Str)) = false := by decide) (he : ∀ env, starEach (e :: es) env = (false, eval e env) :: starEach es env := by intro _; rfl) (hpl : ∀ env, (backTo pos (starEach es env)).any (·.1) = false := by intro _; rfl) :
    SemF S (.Call (.Name x p) (e :: es) [] pos) (calF g fa) := by
  obtain ⟨t, pa, q⟩ := ha.ex
  exact ⟨⟨_, fun X hX => pe_callTy (hc X hX) (by show X.env.scope.names.lookup x = _; rw [hX.hsc]; exact hg) (by rw [hX.hmg]; exact hm) hv (pa X hX) hn hdb (he _) (hpl _), cbF_run hr q⟩⟩

/-! len, abs, max, min, int, list, tuple -/
def dLen : List D → Rv D
  | [.list xs] => .ok (.int xs.length)
  | [.tuple xs] => .ok (.int xs.length)
  | [.str x] => if x.length ≤ 16000000 then .ok (.int x.length) else .un
  | _ => .un
@[simp] theorem dLen_l (xs : List D) : dLen [.list xs] = .ok (.int xs.length) := rfl
@[simp] theorem dLen_t (xs : List D) : dLen [.tuple xs] = .ok (.int xs.length) := rfl
def rLenA (K : PySem.W.Frag) : List V → Hp → VK → Prop := fun xs H Q => (∃ p ys, xs = [.ref p] ∧ (SqL K H p ys ∨ SqT K H p ys) ∧ Q (.int ys.length) H) ∨ ∃ z, xs = [.str z] ∧ z.length ≤ sizeLine ∧ Q (.int z.length) H
theorem call_lenA {X : Cx} : CallR X (.builtin "len") (rLenA X.K) := call_len_seq.or call_len_str
theorem on_len : OpN S (rLenA S.K) dLen := by
  intro xs ds H Z Q σ z r h
  cases r with
  | nil => exact False.elim h
  | cons r1 r2 =>
    cases r2 with
    | cons _ _ => cases r1 <;> exact False.elim h
    | nil =>
      cases r1 with
      | lst h1 h2 => exact .inl ⟨_, _, rfl, .inl ((Gr.hid_le H Z).rdl h1).sq, by rw [RpA.length h2]; exact Post.ok (R := RE S) h (.int _)⟩
      | tup h1 h2 => exact .inl ⟨_, _, rfl, .inr ((Gr.hid_le H Z).sqT h1), by rw [RpA.length h2]; exact Post.ok (R := RE S) h (.int _)⟩
      | str x =>
        unfold dLen at h
        simp only at h
        split at h
        · rename_i hl
          exact .inr ⟨x, rfl, line_ge hl, Post.ok (R := RE S) h (.int _)⟩
        · exact False.elim h
      | _ => exact False.elim h
def dAbs : List D → Rv D
  | [.int i] => .ok (.int (if i < 0 then -i else i))
  | _ => .un
@[simp] theorem dAbs_i (i : Int) : dAbs [.int i] = .ok (.int (if i < 0 then -i else i)) := rfl
theorem on_abs : OpN S (fun xs H Q => ∃ i, xs = [.int i] ∧ Q (.int (if i < 0 then -i else i)) H) dAbs := by
  intro xs ds H Z Q σ z r h
  cases r with
  | nil => exact False.elim h
  | cons r1 r2 =>
    cases r2 with
    | cons _ _ => cases r1 <;> exact False.elim h
    | nil =>
      cases r1 with
      | int i => exact ⟨i, rfl, Post.ok (R := RE S) h (.int _)⟩
      | _ => exact False.elim h
def dMax : List D → Rv D
  | [.int i, .int j] => .ok (.int (if j > i then j else i))
  | _ => .un
@[simp] theorem dMax_i (i j : Int) : dMax [.int i, .int j] = .ok (.int (if j > i then j else i)) := rfl
theorem on_max : OpN S (fun xs H Q => ∃ i j, xs = [.int i, .int j] ∧ Q (.int (if j > i then j else i)) H) dMax := by
  intro xs ds H Z Q σ z r h
  cases r with
  | nil => exact False.elim h
  | cons r1 r2 =>
    cases r2 with
    | nil => cases r1 <;> exact False.elim h
    | cons r2 r3 =>
      cases r3 with
      | cons _ _ => cases r1 <;> cases r2 <;> exact False.elim h
      | nil =>
        cases r1 with
        | int i =>
          cases r2 with
          | int j => exact ⟨i, j, rfl, Post.ok (R := RE S) h (.int _)⟩
          | _ => exact False.elim h
        | _ => exact False.elim h
def dMin : List D → Rv D
  | [.int i, .int j] => .ok (.int (if j < i then j else i))
  | _ => .un
@[simp] theorem dMin_i (i j : Int) : dMin [.int i, .int j] = .ok (.int (if j < i then j else i)) := rfl
theorem on_min : OpN S (fun xs H Q => ∃ i j, xs = [.int i, .int j] ∧ Q (.int (if j < i then j else i)) H) dMin := by
  intro xs ds H Z Q σ z r h
  cases r with
  | nil => exact False.elim h
  | cons r1 r2 =>
    cases r2 with
    | nil => cases r1 <;> exact False.elim h
    | cons r2 r3 =>
      cases r3 with
      | cons _ _ => cases r1 <;> cases r2 <;> exact False.elim h
      | nil =>
        cases r1 with
        | int i =>
          cases r2 with
          | int j => exact ⟨i, j, rfl, Post.ok (R := RE S) h (.int _)⟩
          | _ => exact False.elim h
        | _ => exact False.elim h
/-- int(a whole number), int(a truth) -/
def dInt : List D → Rv D
  | [.int i] => .ok (.int i)
  | [.bool k] => .ok (.int (if k then 1 else 0))
  | _ => .un
@[simp] theorem dInt_i (i : Int) : dInt [.int i] = .ok (.int i) := rfl
@[simp] theorem dInt_b (k : Bool) : dInt [.bool k] = .ok (.int (if k then 1 else 0)) := rfl
theorem on_int : OpN S (fun xs H Q => (∃ i, xs = [.int i] ∧ Q (.int i) H) ∨ ∃ k, xs = [.bl k] ∧ Q (.int (if k then 1 else 0)) H) dInt := by
  intro xs ds H Z Q σ z r h
  cases r with
  | nil => exact False.elim h
  | cons r1 r2 =>
    cases r2 with
    | cons _ _ => cases r1 <;> exact False.elim h
    | nil =>
      cases r1 with
      | int i => exact .inl ⟨i, rfl, Post.ok (R := RE S) h (.int _)⟩
      | bl i => exact .inr ⟨i, rfl, Post.ok (R := RE S) h (.int _)⟩
      | _ => exact False.elim h
def dList : List D → Rv (List D)
  | [.list xs] => .ok xs
  | [.tuple xs] => .ok xs
  | _ => .un
@[simp] theorem dList_l (xs : List D) : dList [.list xs] = .ok xs := rfl
@[simp] theorem dList_t (xs : List D) : dList [.tuple xs] = .ok xs := rfl
theorem on_list : OpNF S (fun xs H Q => ∃ p ys, xs = [.ref p] ∧ (SqL S.K H p ys ∨ SqT S.K H p ys) ∧ ∀ l, H l = none → Q (.ref l) (upd H l (.lst ys))) dList := by
  intro xs ds H Z Q σ z r h
  cases r with
  | nil => exact False.elim h
  | cons r1 r2 =>
    cases r2 with
    | cons _ _ => cases r1 <;> exact False.elim h
    | nil =>
      cases r1 with
      | lst h1 h2 => exact ⟨_, _, rfl, .inl ((Gr.hid_le H Z).rdl h1).sq, fun l hl => h (l, _) H (Gr.refl H) h2 hl⟩
      | tup h1 h2 => exact ⟨_, _, rfl, .inr ((Gr.hid_le H Z).sqT h1), fun l hl => h (l, _) H (Gr.refl H) h2 hl⟩
      | _ => exact False.elim h
def dTuple : List D → Rv D
  | [.list xs] => .ok (.tuple xs)
  | [.tuple xs] => .ok (.tuple xs)
  | _ => .un
@[simp] theorem dTuple_l (xs : List D) : dTuple [.list xs] = .ok (.tuple xs) := rfl
@[simp] theorem dTuple_t (xs : List D) : dTuple [.tuple xs] = .ok (.tuple xs) := rfl
theorem on_tuple : OpN S (fun xs H Q => ∃ p ys, xs = [.ref p] ∧ ((SqL S.K H p ys ∧ ∀ l, H l = none → Q (.ref l) (upd H l (.tup ys))) ∨ (SqT S.K H p ys ∧ Q (.ref p) H))) dTuple := by
  intro xs ds H Z Q σ z r h
  cases r with
  | nil => exact False.elim h
  | cons r1 r2 =>
    cases r2 with
    | cons _ _ => cases r1 <;> exact False.elim h
    | nil =>
      cases r1 with
      | lst h1 h2 => exact ⟨_, _, rfl, .inl ⟨((Gr.hid_le H Z).rdl h1).sq, fun l hl => Post.newT z h h2 hl⟩⟩
      | tup h1 h2 => exact ⟨_, _, rfl, .inr ⟨(Gr.hid_le H Z).sqT h1, Post.ok (R := RE S) h (.tup h1 h2)⟩⟩
      | _ => exact False.elim h
end

/-! ### a def by its body -/
section
variable {P : Program} {w : World} {K : PySem.W.Frag} {mg : Str → Option Value} {base : Heap}
def entry (n : Nat) (ds : List D) : Env' := ds.map .fz ++ List.replicate n .un
/-- what a body's end is to the caller -/
def Res.fin : Res → Rv D
  | .rt d => .ok d
  | .nx _ => .ok .none
  | .xc x => .xc x
  | _ => .un
def wAll (E : XK) : WX := fun cls d _ H => E cls d H
theorem at_body {k : Nat} {N ps : List Str} {qual : Str} {sc : Scope} {f : Addr} {cdv : Value} {A : Around} {outer : List Env} {s : Shared} {H : Hp} {E : XK} (sco : FnScope N ps sc) (hgd : A.guards = some []) {tr : Nat} (hr : Room k (A.deeper (envOfC qual sc s.heap.objs.size f cdv))) :
    Sx.At ⟨⟨P, w, K, mg, base⟩, k, N, sc, wAll E, true, fun _ => true, tr⟩ (cxOf (L2.CX P w) P w K mg base N qual sc f cdv A outer s H E) where
  hP := rfl
  hw := rfl
  hK := rfl
  hmg := rfl
  hb := rfl
  hN := rfl
  hsc := rfl
  nd := sco.nd
  calm := rfl
  gd := hgd
  hr := hr
  tk := takes_of rfl rfl rfl rfl
  fnl := fun _ _ _ => .inl rfl
  pass := fun _ => passes_of rfl
  body := fun _ => ⟨rfl, rfl, rfl⟩
theorem fnG_of {x qual : Str} {st : Stmt} {f : Addr} {fd : FuncData} {N ps : List Str} {k n m tr : Nat} {G : Env' → Res} (F : Fun K x qual st f fd) (S : FnScope N ps (defScope st)) (hn : ps.length = n) (hm : N.length = n + m)
    (body : ∀ E : XK, SemSs ⟨⟨P, w, K, mg, base⟩, k, N, defScope st, wAll E, true, fun _ => true, tr⟩ (defBody st) G) :
    FnG P w K mg base (k + 1) f fd ps (spT ⟨P, w, K, mg⟩ mg n tr fun ds => (G (entry m ds)).fin) := by
  obtain ⟨oc, od, kV, doc, pm, an, cdv, ct, osl, rfl, lk, hcd⟩ := F.ex
  have len : ∀ vs H Q E, spT ⟨P, w, K, mg⟩ mg n tr (fun ds => (G (entry m ds)).fin) vs H Q E → vs.length = ps.length := fun vs H Q E ⟨Z, ds, h1, _⟩ => h1.trans hn.symm
  refine ⟨len, fun A outer s H args us vs Q E hgd hr e0 hb r hsp => ?_⟩
  have hl := len _ _ _ _ hsp
  have KX : K.In s.heap := e0.mod.kin.keeps fun b o e => (e0.bs b o e).1
  have lim : s.heap.NoLimit := e0.mod.nolimit.keeps fun b o e => (e0.bs b o e).1
  have kinds : ∀ y ∈ ps.zip us, (defScope st).names.lookup y.1 = some .local ∨ ((defScope st).names.lookup y.1 = some .cell ∧ ((cellsFrom (s.heap.objs.size + 1) (defScope st).names []).lookup y.1).isSome = true) := by
    intro y hy
    exact (S.par y.1 (List.of_mem_zip (show (y.1, y.2) ∈ ps.zip us from hy)).1).imp id fun q => ⟨q, PySem.W.cellsFrom_some _ _ _ (.inl q)⟩
  refine codeAny_call_function hr.depth (KX _ _ lk) rfl S.co S.gen rfl (PySem.W.codeRec_of KX hcd) (hb _ _ _ _ ?_)
  refine wpAny_newFunctionEnv_cells S.kind kinds ?_
  rintro env rfl s1 x
  refine ⟨lim.keeps x.toInCall.keep, codeAny_func ?_⟩
  obtain ⟨t, pt, q⟩ := (body E).ex
  have pt := pt _ (at_body S (s := s) (H := H) (outer := outer) (f := f) (cdv := cdv) (qual := qual) hgd (hr.deeper _))
  have I : Inv (cxOf (L2.CX P w) P w K mg base N qual (defScope st) f cdv A outer s H E) [] (L2.start N vs) H s1 := inv_start S hr.hd e0 hl r x
  obtain ⟨Z, ds, hvl, z, rd, hq⟩ := hsp
  have hq : PostDT ⟨P, w, K, mg⟩ mg tr E Z H Q (G (entry m ds)).fin := hq
  have hdl := RpA.length rd
  have eN : L2.start N vs = vs.map some ++ List.replicate m none := by
    unfold L2.start
    rw [show N.length - vs.length = m by omega]
  have hk : Ok ⟨P, w, K, mg⟩ (hid H Z) H Z (entry m ds) (L2.start N vs) H := by
    have noown : ∀ (i n : Nat) (d : D), (entry m ds)[i]? ≠ some (.ow n d) := by
      intro i n d h
      unfold entry at h
      rcases Nat.lt_or_ge i ds.length with hi | hi
      · rw [List.getElem?_append_left (by simpa using hi), List.getElem?_map] at h
        cases e : ds[i]? with
        | none => rw [e] at h; cases h
        | some y => rw [e] at h; cases h
      · rw [List.getElem?_append_right (by simpa using hi), List.getElem?_replicate] at h
        split at h <;> cases h
    have hzz : ∀ a, hz Z (entry m ds) (fun _ => []) [] a → Z a := fun a h => h.elim id fun ⟨i, n, d, h1, _⟩ => absurd h1 (noown i n d)
    have e : Gr (hid H Z) (hid H (hz Z (entry m ds) (fun _ => []) [])) := (Gr.refl H).hid2 hzz
    refine ⟨fun _ => [], ⟨by rw [eN]; simp [entry, hdl], fun i d h => ?_, fun i n d h => absurd h (noown i n d), fun i j n _ d _ h => absurd h (noown i n d), Gr.refl H, e, z⟩⟩
    unfold entry at h
    rcases Nat.lt_or_ge i ds.length with hi | hi
    · rw [List.getElem?_append_left (by simpa using hi), List.getElem?_map] at h
      cases ed : ds[i]? with
      | none => rw [ed] at h; cases h
      | some y =>
        rw [ed] at h
        cases h
        obtain ⟨v, hv, rv⟩ := RpA.get rd ed
        refine ⟨v, ?_, rv.gr e⟩
        rw [eN, List.getElem?_append_left (by simp; omega), List.getElem?_map, hv]
        rfl
    · rw [List.getElem?_append_right (by simpa using hi), List.getElem?_replicate] at h
      split at h <;> cases h
  have hpost : PostS ⟨⟨P, w, K, mg, base⟩, k, N, defScope st, wAll E, true, fun _ => true, tr⟩ (hid H Z) H Z { nx := fun _ H' => Q .non H', rt := Q } (G (entry m ds)) := by
    cases eG : G (entry m ds) with
    | un => rw [eG] at hq; exact hq
    | bk ρ => rw [eG] at hq; exact False.elim hq
    | ct ρ => rw [eG] at hq; exact False.elim hq
    | nx ρ => rw [eG] at hq; exact fun σ' H' ⟨o, k'⟩ => hq .non H' [] k'.gr (fun a h => by cases h) (.leaf rfl .non)
    | rt d => rw [eG] at hq; exact fun v H' U e hU r => hq v H' U e hU r
    | xc y => rw [eG] at hq; exact fun cls dx _ H' e _ r => hq cls dx H' e r
  refine wpAny_mono (pt.run [] s1 (L2.start N vs) H _ I (q _ _ _ _ _ _ _ hk hpost)) ?_ fun e s' hs => hs
  intro fl s' hs
  have fin : ∀ {σ' : L2.St} {H' : Hp} {v : V} {u : Value}, Inv (cxOf (L2.CX P w) P w K mg base N qual (defScope st) f cdv A outer s H E) [] σ' H' s' → RelV v u → Q v H' → CE outer P w H s Q u s' := by
    intro σ' H' v u J rv q
    exact ⟨v, H', J.os, J.bare, J.base, J.hok, rv, q⟩
  match fl, hs with
  | .ret u, ⟨v, σ', H', J, rv, q⟩ => exact fin J rv q
  | .next, ⟨σ', H', J, q⟩ => exact fin (v := V.non) (u := Value.none) J rfl q
  | .brk, ⟨_, _, _, q⟩ => exact False.elim q
  | .cont, ⟨_, _, _, q⟩ => exact False.elim q
end
end Bv

namespace Bv
open PySem PySem.Spec L2 PyProof.Rows
section
variable {S : Sx}
theorem PI.or {X : Cx} {tg e : Expr} {w1 w2 : TI} (h1 : PI X tg e w1) (h2 : PI X tg e w2) : PI X tg e (fun σ H R => w1 σ H R ∨ w2 σ H R) :=
  ⟨fun pins s σ H R I h => h.elim (h1.run pins s σ H R I) (h2.run pins s σ H R I)⟩

/-! ### targets of a for -/
structure SemTg (S : Sx) (tg : Expr) (b : D → Env' → Option Env') : Prop where
  ex : ∃ g : TG, (∀ X, S.At X → PG X tg g) ∧ ∀ d v ρ ρ' F H0 Z o σ H Q, OkAt S.c F H0 Z ρ o σ H → Rp S.c F v d → b d ρ = some ρ' → (∀ σ', OkAt S.c F H0 Z ρ' o σ' H → Q σ' H) → g v σ H Q
def bName (i : Nat) (d : D) (ρ : Env') : Option Env' := some (ρ.set i (.fz d))
theorem tg_name (i : Nat) {x : Str} {pos : Pos} (hi : S.N[i]? = some x := by rfl) (hx : L2.Loc S.sc x := by first | exact Or.inl rfl | exact Or.inr rfl) (hst : S.st x = true := by rfl) : SemTg S (.Name x pos) (bName i) :=
  ⟨⟨_, fun X hX => pg_name hX.nd (by rw [hX.hN]; exact hi) (by rw [hX.hsc]; exact hx) (hX.fnl x hx hst), fun d v ρ ρ' F H0 Z o σ H Q k r e q => by
    cases e
    exact q _ (k.put (r.gr k.fr))⟩⟩
def bTup (is : List Nat) (d : D) (ρ : Env') : Option Env' := match d with | .tuple ds => setAll is ds ρ | _ => none
theorem setAll_len : ∀ {is : List Nat} {ds : List D} {ρ ρ' : Env'}, setAll is ds ρ = some ρ' → is.length = ds.length
  | [], [], _, _, _ => rfl
  | i :: is, d :: ds, _, _, e => by simp [setAll_len (is := is) (ds := ds) (by simpa [setAll] using e)]
  | [], _ :: _, _, _, e => by cases e
  | _ :: _, [], _, _, e => by cases e
theorem tg_tup {ts : List Expr} {is : List Nat} {kt : Nat} {pt : Pos} (hg : SemG S ts is) (hn : ∀ env, (assignEach ts env).length = is.length := by intro _; rfl) (hst : ∀ env, (assignEach ts env).findIdx? (·.1) = none := by intro _; rfl) : SemTg S (.Tuple ts kt pt) (bTup is) := by
  refine ⟨⟨gTup S.K is.length (gNames is), fun X hX => ?_, fun d v ρ ρ' F H0 Z o σ H Q k r e q => ?_⟩⟩
  · rw [← hX.hK]
    exact pg_tup hX.calm (hg.ex X hX) (hn _) (hst _)
  · cases r with
    | @tup a xs ds r1 r2 =>
      exact ⟨a, xs, rfl, (k.fr.trans (Gr.hid_le _ _)).sqT r1, by rw [RpA.length r2, setAll_len e], setAll_run k r2 e q⟩
    | _ => cases e

/-! ### for -/
def forL (b : D → Env' → Option Env') (g : Env' → Res) : List D → Env' → Res
  | [], ρ => .nx ρ
  | d :: r, ρ => match b d ρ with
    | none => .un
    | some ρ1 => match g ρ1 with
      | .nx ρ2 => forL b g r ρ2
      | .ct ρ2 => forL b g r ρ2
      | .bk ρ2 => .nx ρ2
      | e => e
theorem Ok.keep {c : Cz} {F F' H0 : Hp} {Z : Addr → Prop} {ρ : Env'} {σ : L2.St} {H : Hp} (k : Ok c F H0 Z ρ σ H) (e : Gr F' F) : Ok c F' H0 Z ρ σ H := let ⟨o, k⟩ := k; ⟨o, k.keep (e.trans k.fr)⟩
/-- one turn of a for: the item is stored, the body runs -/
theorem turn_run {b : D → Env' → Option Env'} {g : Env' → Res} {tg : TG} {tb : TS} (hb : ∀ d v ρ ρ' F H0 Z o σ H Q, OkAt S.c F H0 Z ρ o σ H → Rp S.c F v d → b d ρ = some ρ' → (∀ σ', OkAt S.c F H0 Z ρ' o σ' H → Q σ' H) → tg v σ H Q) (hg : TellsS S tb g)
    {F F1 H0 : Hp} {Z : Addr → Prop} {Dn : Ends} {d : D} {r : List D} {ρ : Env'} {σ : L2.St} {H : Hp} {v : V} {Nx : L2.St → Hp → Prop} (eF : Gr F F1) (k : Ok S.c F1 H0 Z ρ σ H) (rv : Rp S.c F1 v d) (h : PostS S F H0 Z Dn (forL b g (d :: r) ρ))
    (hN : ∀ ρ' σ' H', Ok S.c F1 H0 Z ρ' σ' H' → PostS S F H0 Z Dn (forL b g r ρ') → Nx σ' H') : tg v σ H fun σ2 H2 => tb { Dn with nx := Nx, ct := Nx, bk := Dn.nx } σ2 H2 := by
  obtain ⟨o, k⟩ := k
  unfold forL at h
  cases eb : b d ρ with
  | none => simp only [eb] at h; exact False.elim h
  | some ρ1 =>
    simp only [eb] at h
    refine hb d v ρ ρ1 F1 H0 Z o σ H _ k rv eb fun σ2 k2 => ?_
    refine hg ρ1 F1 H0 Z σ2 H _ ⟨o, k2⟩ ?_
    cases eg : g ρ1 with
    | un => simp only [eg] at h; exact h
    | nx ρ2 => simp only [eg] at h; exact fun σ' H' k' => hN ρ2 σ' H' k' h
    | ct ρ2 => simp only [eg] at h; exact fun σ' H' k' => hN ρ2 σ' H' k' h
    | bk ρ2 => simp only [eg] at h; exact fun σ' H' k' => h σ' H' (k'.keep eF)
    | rt x => simp only [eg] at h; exact h
    | xc x => simp only [eg] at h; exact fun cls dx σ' H' e1 e2 r => h cls dx σ' H' e1 (eF.trans e2) r
def items : D → Option (List D)
  | .list xs => some xs
  | .tuple xs => some xs
  | _ => none
def sfor (M : List Nat) (b : D → Env' → Option Env') (f : Vw → Rv D) (g : Env' → Res) (ρ : Env') : Res := (f (vw M ρ)).st fun d => match items d with
  | some xs => forL b g xs (if imm d = true then ρ else frz M ρ)
  | none => .un
theorem drop_cons {A : Type} {xs : List A} {i : Nat} {x : A} (h : xs[i]? = some x) : xs.drop i = x :: xs.drop (i + 1) := by
  obtain ⟨h1, h2⟩ := List.getElem?_eq_some_iff.mp h
  rw [List.drop_eq_getElem_cons h1, h2]
/-- for target in a list, a tuple -/
theorem ss_for {tg iter : Expr} {body : List Stmt} {b : D → Env' → Option Env'} {f : Vw → Rv D} {g : Env' → Res} {pos : Pos} (M : List Nat) (ht : SemTg S tg b) (hi : SemE S iter f) (hb : SemSs S body g) (hdf : S.df = true := by rfl)
    (hs : ∀ env x, foldedSetIterable iter env x = pure x := by intro _ _; rfl) : SemS S (.For tg iter body [] pos) (sfor M b f g) := by
  obtain ⟨ti, pi, qi⟩ := hi.ex
  obtain ⟨tt, pt, qt⟩ := ht.ex
  obtain ⟨tb, pb, qb⟩ := hb.ex
  refine ⟨⟨tFor (fun σ H R => iList S.K ti σ H R ∨ iTup S.K ti σ H R) tt tb, fun X hX => ?_, fun ρ F H0 Z σ H Dn ⟨o, k⟩ h => ?_⟩⟩
  · rw [← hX.hK]
    exact ps_for (hX.pass hdf) hX.calm (PI.or (pi_list (pi X hX)) (pi_tup (pi X hX))) (pt X hX) (pb X hX) (hs _)
  · unfold sfor at h
    cases ef : f (vw M ρ) with
    | un => rw [ef] at h; exact False.elim h
    | xc x =>
      refine .inl (qi (vw M ρ) σ H (hz Z ρ o M) _ k.hin k.view ?_)
      rw [ef] at h ⊢
      exact fun cls dx H' e q => h cls dx σ H' (k.gr.trans e) (k.out e) (q.gr ((Gr.refl H').hid2 fun a z => .inl z))
    | ok d =>
      rw [ef] at h
      have h : PostS S F H0 Z Dn (match items d with | some xs => forL b g xs (if imm d = true then ρ else frz M ρ) | none => .un) := h
      -- the state at the loop's start, all that is seen kept
      have start : ∀ {v : V} {H' : Hp}, OkAt S.c F H0 Z ρ o σ H' → Rp S.c (hid H' (hz Z ρ o M)) v d → ∃ F1, Gr F F1 ∧ Ok S.c F1 H0 Z (if imm d = true then ρ else frz M ρ) σ H' ∧ Rp S.c F1 v d := by
        intro v H' k' r
        by_cases hm : imm d = true
        · rw [if_pos hm]
          exact ⟨_, k'.fr, ⟨o, k'.keep (Gr.refl _)⟩, k'.imm hm r⟩
        · rw [if_neg hm]
          have k3 := k'.freeze M
          exact ⟨_, k3.fr, ⟨o, k3.keep (Gr.refl _)⟩, by rw [hid_frz]; exact r⟩
      cases d with
      | list ds =>
        refine .inl (qi (vw M ρ) σ H (hz Z ρ o M) _ k.hin k.view ?_)
        rw [ef]
        intro v H' e r
        have k' := k.grow e
        obtain ⟨F1, eF, k1, r1⟩ := start k' r
        cases r1 with
        | @lst a xs _ r1 r2 =>
          refine ⟨a, rfl, (by cases r with | lst q _ => exact ⟨_, ((Gr.hid_le _ _).rdl q).sq⟩), ?_⟩
          have := for_list (K := S.K) (a := a) (xs := xs) (g := tt) (tb := tb) (D := Dn) (σ := σ) (H := H') (fun i σ' H2 => ∃ ρ', Ok S.c F1 H0 Z ρ' σ' H2 ∧ PostS S F H0 Z Dn (forL b g (ds.drop i) ρ')) ⟨_, k1, h⟩
            (fun i σ' H2 _ ⟨ρ', ⟨o', k2⟩, _⟩ => ((k2.fr.trans (Gr.hid_le _ _)).rdl r1).sq) ?_ ?_
          · exact this
          · rintro i x σ' H2 hx ⟨ρ', k2, hp⟩
            obtain ⟨d, hd, rd⟩ := RpA.got r2 hx
            rw [drop_cons hd] at hp
            exact turn_run qt qb eF k2 rd hp fun ρ2 σ3 H3 k3 h3 => ⟨ρ2, k3, h3⟩
          · rintro σ' H2 ⟨ρ', k2, hp⟩
            rw [RpA.length r2, List.drop_length] at hp
            exact hp σ' H2 (k2.keep eF)
      | tuple ds =>
        refine .inr (qi (vw M ρ) σ H (hz Z ρ o M) _ k.hin k.view ?_)
        rw [ef]
        intro v H' e r
        have k' := k.grow e
        obtain ⟨F1, eF, k1, r1⟩ := start k' r
        cases r1 with
        | @tup a xs _ r1 r2 =>
          refine ⟨a, rfl, (by cases r with | tup q _ => exact ⟨_, (Gr.hid_le _ _).sqT q⟩), ?_⟩
          have := for_tup (K := S.K) (a := a) (xs := xs) (g := tt) (tb := tb) (D := Dn) (σ := σ) (H := H') (fun i σ' H2 => ∃ ρ', Ok S.c F1 H0 Z ρ' σ' H2 ∧ PostS S F H0 Z Dn (forL b g (ds.drop i) ρ')) ⟨_, k1, h⟩
            (fun i σ' H2 _ ⟨ρ', ⟨o', k2⟩, _⟩ => (k2.fr.trans (Gr.hid_le _ _)).sqT r1) ?_ ?_
          · exact this
          · rintro i x σ' H2 hx ⟨ρ', k2, hp⟩
            obtain ⟨d, hd, rd⟩ := RpA.got r2 hx
            rw [drop_cons hd] at hp
            exact turn_run qt qb eF k2 rd hp fun ρ2 σ3 H3 k3 h3 => ⟨ρ2, k3, h3⟩
          · rintro σ' H2 ⟨ρ', k2, hp⟩
            rw [RpA.length r2, List.drop_length] at hp
            exact hp σ' H2 (k2.keep eF)
      | _ => exact False.elim h
/-- for target in range(n), range(a, n) -/
def rangeD (lo hi : Int) : List D := (List.range (hi - lo).toNat).map fun i => .int (lo + (i : Nat))
def rngOk (i : Int) : Bool := decide (-(2 ^ 62) ≤ i ∧ i < 2 ^ 62)
def rng1 : List D → Rv (List D)
  | [.int n] => if rngOk n = true then .ok (rangeD 0 n) else .un
  | _ => .un
def rng2 : List D → Rv (List D)
  | [.int a, .int n] => if rngOk a = true ∧ rngOk n = true then .ok (rangeD a n) else .un
  | _ => .un
theorem rng1_i (n : Int) : rng1 [.int n] = if rngOk n = true then .ok (rangeD 0 n) else .un := rfl
theorem rng2_i (a n : Int) : rng2 [.int a, .int n] = if rngOk a = true ∧ rngOk n = true then .ok (rangeD a n) else .un := rfl
def sforR (rg : List D → Rv (List D)) (M : List Nat) (b : D → Env' → Option Env') (f : Vw → Rv (List D)) (g : Env' → Res) (ρ : Env') : Res := ((f (vw M ρ)).bind rg).st fun xs => forL b g xs ρ
theorem rangeD_get {lo hi : Int} {i : Nat} (h : i < (hi - lo).toNat) : (rangeD lo hi)[i]? = some (.int (lo + (i : Nat))) := by
  unfold rangeD
  rw [List.getElem?_map, List.getElem?_range h]; rfl
theorem rangeD_len (lo hi : Int) : (rangeD lo hi).length = (hi - lo).toNat := by simp [rangeD]
theorem forR_run {b : D → Env' → Option Env'} {g : Env' → Res} {tt : TG} {tb : TS} (qt : ∀ d v ρ ρ' F H0 Z o σ H Q, OkAt S.c F H0 Z ρ o σ H → Rp S.c F v d → b d ρ = some ρ' → (∀ σ', OkAt S.c F H0 Z ρ' o σ' H → Q σ' H) → tt v σ H Q) (qb : TellsS S tb g)
    {F H0 : Hp} {Z : Addr → Prop} {Dn : Ends} {ρ : Env'} {σ : L2.St} {H : Hp} {lo hi : Int} (k : Ok S.c F H0 Z ρ σ H) (h : PostS S F H0 Z Dn (forL b g (rangeD lo hi) ρ)) :
    ∃ W : Nat → Nat → L2.St → Hp → Prop, (∃ m, W 0 m σ H) ∧ ∀ i m σ H, W i m σ H →
      ((Itr lo (hi - lo).toNat).stop i H ∧ Dn.nx σ H) ∨ ((Itr lo (hi - lo).toNat).go i H ∧ ∃ N : L2.St → Hp → Prop, (∀ σ' H', N σ' H' → ∃ m', m' < m ∧ W (i + 1) m' σ' H') ∧ ∀ x H', (Itr lo (hi - lo).toNat).yld i H x H' → tt x σ H' fun σ2 H2 => tb { Dn with nx := N, ct := N, bk := Dn.nx } σ2 H2) := by
  refine for_range (lo := lo) (n := (hi - lo).toNat) (fun i σ' H2 => ∃ ρ', Ok S.c F H0 Z ρ' σ' H2 ∧ PostS S F H0 Z Dn (forL b g ((rangeD lo hi).drop i) ρ')) ⟨ρ, k, h⟩ ?_ ?_
  · rintro i σ' H2 hx ⟨ρ', k2, hp⟩
    rw [drop_cons (rangeD_get hx)] at hp
    exact turn_run qt qb (Gr.refl F) k2 (.int _) hp fun ρ2 σ3 H3 k3 h3 => ⟨ρ2, k3, h3⟩
  · rintro σ' H2 ⟨ρ', k2, hp⟩
    rw [← rangeD_len, List.drop_length] at hp
    exact hp σ' H2 k2
theorem ss_forR1 {tg a : Expr} {body : List Stmt} {b : D → Env' → Option Env'} {f : Vw → Rv (List D)} {g : Env' → Res} {p pos pos' : Pos} (M : List Nat) (hm : S.mg "range" = none) (ht : SemTg S tg b) (hi : SemA S [a] f) (hb : SemSs S body g) (hdf : S.df = true := by rfl)
    (hg : S.sc.names.lookup ("range" : Str) = some .globalImplicit := by rfl) (hst : ∀ env, starEach [a] env = [(false, eval a env)] := by intro _; rfl) : SemS S (.For tg (.Call (.Name "range" p) [a] [] pos) body [] pos') (sforR rng1 M b f g) := by
  obtain ⟨ti, pi, qi⟩ := hi.ex
  obtain ⟨tt, pt, qt⟩ := ht.ex
  obtain ⟨tb, pb, qb⟩ := hb.ex
  refine ⟨⟨tFor (iRng1 ti) tt tb, fun X hX => ?_, fun ρ F H0 Z σ H Dn ⟨o, k⟩ h => ?_⟩⟩
  · exact ps_for (hX.pass hdf) hX.calm (pi_range1 (by show X.env.scope.names.lookup ("range" : Str) = _; rw [hX.hsc]; exact hg) (by rw [hX.hmg]; exact hm) (pi X hX) (hst _)) (pt X hX) (pb X hX) (by intro _; rfl)
  · unfold sforR at h
    refine qi (vw M ρ) σ H (hz Z ρ o M) _ k.hin k.view ?_
    cases ef : f (vw M ρ) with
    | un => rw [ef] at h; exact False.elim h
    | xc x =>
      rw [ef] at h
      exact fun cls dx H' e q => h cls dx σ H' (k.gr.trans e) (k.out e) (q.gr ((Gr.refl H').hid2 fun a z => .inl z))
    | ok ds =>
      rw [ef] at h
      have h : PostS S F H0 Z Dn ((rng1 ds).st fun xs => forL b g xs ρ) := h
      intro vs H' e r
      cases r with
      | nil => exact False.elim h
      | cons r1 r2 =>
        cases r2 with
        | cons _ _ => cases r1 <;> exact False.elim h
        | nil =>
          cases r1 with
          | int n =>
            rw [rng1_i] at h
            split at h
            · rename_i hn
              have hn := of_decide_eq_true hn
              refine ⟨n, rfl, hn.1, hn.2, ?_⟩
              have := forR_run (tt := tt) (lo := 0) (hi := n) qt qb ⟨o, k.grow e⟩ h
              rw [Int.sub_zero] at this
              exact this
            · exact False.elim h
          | _ => exact False.elim h
theorem ss_forR2 {tg a a2 : Expr} {body : List Stmt} {b : D → Env' → Option Env'} {f : Vw → Rv (List D)} {g : Env' → Res} {p pos pos' : Pos} (M : List Nat) (hm : S.mg "range" = none) (ht : SemTg S tg b) (hi : SemA S [a, a2] f) (hb : SemSs S body g) (hdf : S.df = true := by rfl)
    (hg : S.sc.names.lookup ("range" : Str) = some .globalImplicit := by rfl) (hst : ∀ env, starEach [a, a2] env = [(false, eval a env), (false, eval a2 env)] := by intro _; rfl) (hst2 : ∀ env, starEach [a2] env = [(false, eval a2 env)] := by intro _; rfl) : SemS S (.For tg (.Call (.Name "range" p) [a, a2] [] pos) body [] pos') (sforR rng2 M b f g) := by
  obtain ⟨ti, pi, qi⟩ := hi.ex
  obtain ⟨tt, pt, qt⟩ := ht.ex
  obtain ⟨tb, pb, qb⟩ := hb.ex
  refine ⟨⟨tFor (iRng2 ti) tt tb, fun X hX => ?_, fun ρ F H0 Z σ H Dn ⟨o, k⟩ h => ?_⟩⟩
  · exact ps_for (hX.pass hdf) hX.calm (pi_range2 (by show X.env.scope.names.lookup ("range" : Str) = _; rw [hX.hsc]; exact hg) (by rw [hX.hmg]; exact hm) (pi X hX) (hst _) (hst2 _)) (pt X hX) (pb X hX) (by intro _; rfl)
  · unfold sforR at h
    refine qi (vw M ρ) σ H (hz Z ρ o M) _ k.hin k.view ?_
    cases ef : f (vw M ρ) with
    | un => rw [ef] at h; exact False.elim h
    | xc x =>
      rw [ef] at h
      exact fun cls dx H' e q => h cls dx σ H' (k.gr.trans e) (k.out e) (q.gr ((Gr.refl H').hid2 fun a z => .inl z))
    | ok ds =>
      rw [ef] at h
      have h : PostS S F H0 Z Dn ((rng2 ds).st fun xs => forL b g xs ρ) := h
      intro vs H' e r
      cases r with
      | nil => exact False.elim h
      | cons r1 r2 =>
        cases r2 with
        | nil => cases r1 <;> exact False.elim h
        | cons r2 r3 =>
          cases r3 with
          | cons _ _ => cases r1 <;> cases r2 <;> exact False.elim h
          | nil =>
            cases r1 with
            | int a =>
              cases r2 with
              | int n =>
                rw [rng2_i] at h
                split at h
                · rename_i hn
                  have h1 := of_decide_eq_true hn.1
                  have h2 := of_decide_eq_true hn.2
                  exact ⟨a, n, rfl, ⟨h1.1, h1.2, h2.1, h2.2⟩, forR_run (tt := tt) qt qb ⟨o, k.grow e⟩ h⟩
                · exact False.elim h
              | _ => exact False.elim h
            | _ => exact False.elim h

/-! ### while -/
def whileL (M : List Nat) (c : Vw → Rv Bool) (g : Env' → Res) : Nat → Env' → Res
  | 0, _ => .un
  | n + 1, ρ => (c (vw M ρ)).st fun b => if b = true then (match g ρ with
      | .nx ρ' => whileL M c g n ρ'
      | .ct ρ' => whileL M c g n ρ'
      | .bk ρ' => .nx ρ'
      | e => e) else .nx ρ
theorem ss_while {c : Expr} {body : List Stmt} {fc : Vw → Rv Bool} {g : Env' → Res} {pos : Pos} (M : List Nat) (fuel : Env' → Nat) (hc : SemT S c fc) (hb : SemSs S body g) (hdf : S.df = true := by rfl) : SemS S (.While c body [] pos) (fun ρ => whileL M fc g (fuel ρ) ρ) := by
  obtain ⟨tc, pc, qc⟩ := hc.ex
  obtain ⟨tb, pb, qb⟩ := hb.ex
  refine ⟨⟨tWhile tc tb, fun X hX => ps_while (hX.pass hdf) (pc X hX) (pb X hX), fun ρ F H0 Z σ H Dn k h => ?_⟩⟩
  refine ⟨fun m σ' H' => ∃ ρ', Ok S.c F H0 Z ρ' σ' H' ∧ PostS S F H0 Z Dn (whileL M fc g m ρ'), ⟨_, ρ, k, h⟩, ?_⟩
  rintro m σ1 H1 ⟨ρ1, ⟨o, k1⟩, h1⟩
  cases m with
  | zero => exact False.elim h1
  | succ n =>
    unfold whileL at h1
    refine qc (vw M ρ1) σ1 H1 (hz Z ρ1 o M) _ k1.hin k1.view (run_e (R := RT) k1 h1 fun d v H' _ k' r h' => ?_)
    cases (show v = d from r)
    cases d with
    | false => exact h' σ1 H' ⟨o, k'⟩
    | true =>
      refine ⟨fun σ' H' => ∃ ρ', Ok S.c F H0 Z ρ' σ' H' ∧ PostS S F H0 Z Dn (whileL M fc g n ρ'), fun σ' H' ⟨ρ', q1, q2⟩ => ⟨n, Nat.lt_succ_self n, ρ', q1, q2⟩, ?_⟩
      refine qb ρ1 F H0 Z σ1 H' _ ⟨o, k'⟩ ?_
      have h' : PostS S F H0 Z Dn (match g ρ1 with | .nx ρ' => whileL M fc g n ρ' | .ct ρ' => whileL M fc g n ρ' | .bk ρ' => .nx ρ' | e => e) := h'
      cases eg : g ρ1 with
      | un => rw [eg] at h'; exact h'
      | nx ρ2 => rw [eg] at h'; exact fun σ' H2 k2 => ⟨ρ2, k2, h'⟩
      | ct ρ2 => rw [eg] at h'; exact fun σ' H2 k2 => ⟨ρ2, k2, h'⟩
      | bk ρ2 => rw [eg] at h'; exact h'
      | rt x => rw [eg] at h'; exact h'
      | xc x => rw [eg] at h'; exact h'
end
end Bv

namespace Bv
open PySem PySem.Spec L2 PyProof.Rows

/-! ### values that are trees of one's own -/
section
variable {S : Sx}
def PostX (S : Sx) (n : Nat) (σ : L2.St) (Z : Addr → Prop) (H : Hp) (Q : VK) : Rv D → Prop
  | .un => False
  | .ok d => ∀ v H' U, Gr H H' → (∀ a ∈ U, H a = none) → Tree S.c (hid H' fun a => Z a ∨ a ∈ U) H' n v d U → Q v H'
  | .xc x => ∀ cls dx H', Gr H H' → XcR S.c S.mg (hid H' Z) x cls dx → S.W cls dx σ H'
def PostXA (S : Sx) (n : Nat) (σ : L2.St) (Z : Addr → Prop) (H : Hp) (Q : List V → Hp → Prop) : Rv (List D) → Prop
  | .un => False
  | .ok ds => ∀ vs H' U, Gr H H' → (∀ a ∈ U, H a = none) → TreeA S.c (hid H' fun a => Z a ∨ a ∈ U) H' n vs ds U → Q vs H'
  | .xc x => ∀ cls dx H', Gr H H' → XcR S.c S.mg (hid H' Z) x cls dx → S.W cls dx σ H'
def PostFX (S : Sx) (n : Nat) (σ : L2.St) (Z : Addr → Prop) (H : Hp) (Q : VK) : Rv (List D) → Prop
  | .un => False
  | .ok ds => ∀ p vs H' U, Gr H H' → (∀ a ∈ U, H a = none) → TreeA S.c (hid H' fun a => Z a ∨ a ∈ U) H' n vs ds U → H' p = none → Q (.ref p) (upd H' p (.lst vs))
  | .xc x => ∀ cls dx H', Gr H H' → XcR S.c S.mg (hid H' Z) x cls dx → S.W cls dx σ H'
theorem PostX.gr {n : Nat} {σ : L2.St} {Z : Addr → Prop} {H H1 : Hp} {Q : VK} (e : Gr H H1) : ∀ {r : Rv D}, PostX S n σ Z H Q r → PostX S n σ Z H1 Q r
  | .un, h => h
  | .ok _, h => fun v H' U e' hU t => h v H' U (e.trans e') (fun a ha => e.free (hU a ha)) t
  | .xc _, h => fun cls dx H' e' r => h cls dx H' (e.trans e') r
theorem PostFX.gr {n : Nat} {σ : L2.St} {Z : Addr → Prop} {H H1 : Hp} {Q : VK} (e : Gr H H1) : ∀ {r : Rv (List D)}, PostFX S n σ Z H Q r → PostFX S n σ Z H1 Q r
  | .un, h => h
  | .ok _, h => fun p v H' U e' hU t => h p v H' U (e.trans e') (fun a ha => e.free (hU a ha)) t
  | .xc _, h => fun cls dx H' e' r => h cls dx H' (e.trans e') r
abbrev TellsX (S : Sx) (n : Nat) (t : TE) (f : Vw → Rv D) : Prop := ∀ η σ H Z Q, In Z H → Vok S.c (hid H Z) η σ → PostX S n σ Z H Q (f η) → t σ H Q
abbrev TellsXA (S : Sx) (n : Nat) (t : TA) (f : Vw → Rv (List D)) : Prop := ∀ η σ H Z Q, In Z H → Vok S.c (hid H Z) η σ → PostXA S n σ Z H Q (f η) → t σ H Q
abbrev TellsFX (S : Sx) (n : Nat) (t : TE) (f : Vw → Rv (List D)) : Prop := ∀ η σ H Z Q, In Z H → Vok S.c (hid H Z) η σ → PostFX S n σ Z H Q (f η) → t σ H Q
structure SemX (S : Sx) (n : Nat) (e : Expr) (f : Vw → Rv D) : Prop where
  ex : ∃ t, (∀ X, S.At X → PE X e t) ∧ TellsX S n t f
structure SemXA (S : Sx) (n : Nat) (es : List Expr) (f : Vw → Rv (List D)) : Prop where
  ex : ∃ t, (∀ X, S.At X → PA X es t) ∧ TellsXA S n t f

theorem PostX.of {n : Nat} {σ : L2.St} {Z : Addr → Prop} {H : Hp} {Q : VK} : ∀ {r : Rv D}, (∀ d, r = .ok d → n = 0 ∨ imm d = true) → PostX S n σ Z H Q r → Post S (RE S) σ Z H Q r
  | .un, _, h => h
  | .ok d, i, h => fun v H' e r => h v H' [] e (fun a h => by cases h) (Tree.of0 (i d rfl) r)
  | .xc _, _, h => h
theorem sx_e {e : Expr} {f : Vw → Rv D} (h : SemE S e f) : SemX S 0 e f := by
  obtain ⟨t, p, q⟩ := h.ex
  exact ⟨⟨t, p, fun η σ H Z Q z hη h => q η σ H Z Q z hη (h.of fun _ _ => .inl rfl)⟩⟩
def immF (f : Vw → Rv D) (η : Vw) : Rv D := (f η).bind fun d => if imm d = true then .ok d else .un
theorem sx_i {n : Nat} {e : Expr} {f : Vw → Rv D} (h : SemE S e f) : SemX S n e (immF f) := by
  obtain ⟨t, p, q⟩ := h.ex
  refine ⟨⟨t, p, fun η σ H Z Q z hη h => q η σ H Z Q z hη ?_⟩⟩
  unfold immF at h
  cases e : f η with
  | un => rw [e] at h; exact h
  | xc x => rw [e] at h; exact h
  | ok d =>
    rw [e] at h
    simp only [Rv.bind_ok] at h
    split at h
    · rename_i hi
      exact h.of fun d' ed => by cases ed; exact .inr hi
    · exact False.elim h
theorem sx_F {e : Expr} {f : Vw → Rv (List D)} (h : SemF S e f) : SemX S 1 e (lstD f) := by
  obtain ⟨t, p, q⟩ := h.ex
  refine ⟨⟨t, p, fun η σ H Z Q z hη h => q η σ H Z Q z hη ?_⟩⟩
  unfold lstD at h
  cases e : f η with
  | un => rw [e] at h; exact h
  | xc x => rw [e] at h; exact h
  | ok ds =>
    rw [e] at h
    intro pv H' e1 r hp
    have e2 : Gr (hid H' Z) (hid (upd H' pv.1 (.lst pv.2)) fun a => Z a ∨ a ∈ [pv.1]) := fun a o q => by
      obtain ⟨q1, q2⟩ := hid_some q
      have na : a ≠ pv.1 := ne_of_none q2 hp
      rw [hid_no (fun y => y.elim q1 fun y => na (List.mem_singleton.mp y)), upd_ne na]
      exact q2
    exact h _ _ [pv.1] (e1.trans (Gr.new hp)) (fun a ha => by rw [List.mem_singleton.mp ha]; exact e1.free hp) (.lst upd_same (TreeA.leaves (RpA.gr e2 r)) (by simp))

def immL (f : Vw → Rv (List D)) (η : Vw) : Rv (List D) := (f η).bind fun ds => if immA ds = true then .ok ds else .un
theorem TreeA.imms {c : Cz} {Hv Hv' H H' : Hp} {n : Nat} {vs : List V} : ∀ {ds : List D}, immA ds = true → RpA c Hv' vs ds → TreeA c Hv' H n vs ds [] := by
  induction vs with
  | nil => intro ds _ h; cases h; exact .nil
  | cons v vs ih =>
    intro ds i h
    cases h with
    | cons h1 h2 =>
      rw [immA, Bool.and_eq_true] at i
      exact .cons (U := []) (W := []) (.leaf i.1 h1) (ih i.2 h2) (fun a h => by cases h)
theorem sx_Fi {n : Nat} {e : Expr} {f : Vw → Rv (List D)} (h : SemF S e f) : SemX S (n + 1) e (lstD (immL f)) := by
  obtain ⟨t, p, q⟩ := h.ex
  refine ⟨⟨t, p, fun η σ H Z Q z hη h => q η σ H Z Q z hη ?_⟩⟩
  unfold lstD immL at h
  cases e : f η with
  | un => rw [e] at h; exact h
  | xc x => rw [e] at h; exact h
  | ok ds =>
    rw [e] at h
    simp only [Rv.bind_ok] at h
    by_cases hi : immA ds = true
    · rw [if_pos hi] at h
      intro pv H' e1 r hp
      have e2 : Gr (hid H' Z) (hid (upd H' pv.1 (.lst pv.2)) fun a => Z a ∨ a ∈ [pv.1]) := fun a o q => by
        obtain ⟨q1, q2⟩ := hid_some q
        have na : a ≠ pv.1 := ne_of_none q2 hp
        rw [hid_no (fun y => y.elim q1 fun y => na (List.mem_singleton.mp y)), upd_ne na]
        exact q2
      exact h _ _ [pv.1] (e1.trans (Gr.new hp)) (fun a ha => by rw [List.mem_singleton.mp ha]; exact e1.free hp) (.lst upd_same (TreeA.imms (Hv := hid H' Z) (H' := H') hi (RpA.gr e2 r)) (by simp))
    · rw [if_neg hi] at h
      exact False.elim h

/-- arguments that are trees -/
theorem sxa_nil {n : Nat} : SemXA S n [] anil := ⟨⟨_, fun _ _ => pa_nil, fun η σ H Z Q z hη h => h [] H [] (Gr.refl H) (fun a h => by cases h) .nil⟩⟩
theorem or_sub {Z : Addr → Prop} {U W : List Addr} (h : ∀ a ∈ U, a ∈ W) : ∀ a, (Z a ∨ a ∈ U) → Z a ∨ a ∈ W := fun a q => q.imp id (h a)
theorem sxa_cons {n : Nat} {e : Expr} {es : List Expr} {f : Vw → Rv D} {g : Vw → Rv (List D)} (he : SemX S n e f) (hs : SemXA S n es g) (h : ∀ env, starEach (e :: es) env = (false, eval e env) :: starEach es env := by intro _; rfl) : SemXA S n (e :: es) (acons f g) := by
  obtain ⟨t, p, q⟩ := he.ex
  obtain ⟨ts, ps, qs⟩ := hs.ex
  refine ⟨⟨_, fun X hX => pa_cons (p X hX) (ps X hX) (h _), fun η σ H Z Q z hη h => ?_⟩⟩
  refine q η σ H Z _ z hη ?_
  unfold acons at h
  cases e1 : f η with
  | un => rw [e1] at h; exact False.elim h
  | xc x => rw [e1] at h; exact h
  | ok d =>
    rw [e1] at h
    intro v H1 U g1 hU t1
    have zU : In (fun a => Z a ∨ a ∈ U) H1 := fun a q => q.elim (z.gr g1 a) fun q => t1.some q
    have gv : Gr (hid H Z) (hid H1 fun a => Z a ∨ a ∈ U) := fun a o w => by
      obtain ⟨w1, w2⟩ := hid_some w
      rw [hid_no (fun y => y.elim w1 fun y => by rw [hU a y] at w2; cases w2)]
      exact g1 _ _ w2
    refine qs η σ H1 (fun a => Z a ∨ a ∈ U) _ zU (hη.gr gv) ?_
    cases e2 : g η with
    | un => rw [e2] at h; exact False.elim h
    | xc x => rw [e2] at h; exact fun cls dx H' g2 r => h cls dx H' (g1.trans g2) (r.gr ((Gr.refl H').hid2 fun a y => .inl y))
    | ok ds =>
      rw [e2] at h
      intro vs H2 W g2 hW t2
      have dis : ∀ a ∈ U, a ∉ W := fun a ha hb => t1.some ha (hW a hb)
      have sub : ∀ a, (Z a ∨ a ∈ U ++ W) → ((Z a ∨ a ∈ U) ∨ a ∈ W) := fun a q => by
        rcases q with q | q
        · exact .inl (.inl q)
        · rcases List.mem_append.mp q with q | q
          · exact .inl (.inr q)
          · exact .inr q
      have gv2 : Gr (hid H1 fun a => Z a ∨ a ∈ U) (hid H2 fun a => Z a ∨ a ∈ U ++ W) := fun a o w => by
        obtain ⟨w1, w2⟩ := hid_some w
        rw [hid_no (fun y => (sub a y).elim w1 fun y => by rw [hW a y] at w2; cases w2)]
        exact g2 _ _ w2
      have same : ∀ a ∈ U, H2 a = H1 a := fun a ha => by
        cases w : H1 a with
        | none => exact absurd w (t1.some ha)
        | some o => exact g2 _ _ w
      exact h _ H2 (U ++ W) (g1.trans g2) (fun a ha => (List.mem_append.mp ha).elim (hU a) fun q => g1.free (hW a q)) (.cons (t1.gr gv2 same) (TreeA.gr ((Gr.refl H2).hid2 sub) (fun _ _ => rfl) t2) dis)
theorem sx_tup {n : Nat} {es : List Expr} {x1} {pos : Pos} {f : Vw → Rv (List D)} (h : SemXA S (n + 1) es f) : SemX S (n + 1) (.Tuple es x1 pos) (tupD f) := by
  obtain ⟨t, p, q⟩ := h.ex
  refine ⟨⟨_, fun X hX => pe_tup (p X hX), fun η σ H Z Q z hη h => ?_⟩⟩
  refine q η σ H Z _ z hη ?_
  unfold tupD at h
  cases e : f η with
  | un => rw [e] at h; exact h
  | xc x => rw [e] at h; exact h
  | ok ds =>
    rw [e] at h
    intro vs H1 U g1 hU t1
    have hl := TreeA.length t1
    simp only [Rv.bind_ok] at h
    split at h
    · rename_i hd
      refine ⟨line_ge (by omega), fun p hp => ?_⟩
      have np : ∀ a ∈ U, a ≠ p := fun a ha q => by
        obtain ⟨xs, w, _⟩ := t1.lists a ha
        rw [q, hp] at w
        cases w
      refine h _ _ U (g1.trans (Gr.new hp)) hU (.tup (.inl (.inl ?_)) (TreeA.gr ((Gr.new hp).hid _) (fun a ha => upd_ne (np a ha)) t1))
      rw [hid_no fun y => y.elim (fun y => z.gr g1 p y hp) fun y => np p y rfl, upd_same]
    · exact False.elim h
theorem PostX.newL {n : Nat} {σ : L2.St} {Z : Addr → Prop} {H : Hp} {Q : VK} {vs : List V} {ds : List D} {U : List Addr} {p : Addr} (h : PostX S (n + 1) σ Z H Q (.ok (.list ds))) {H1 : Hp} (g1 : Gr H H1) (hU : ∀ a ∈ U, H a = none)
    (t1 : TreeA S.c (hid H1 fun a => Z a ∨ a ∈ U) H1 n vs ds U) (hp : H1 p = none) : Q (.ref p) (upd H1 p (.lst vs)) := by
  have np : ∀ a ∈ U, a ≠ p := fun a ha q => by
    obtain ⟨xs, w, _⟩ := t1.lists a ha
    rw [q, hp] at w
    cases w
  have e2 : Gr (hid H1 fun a => Z a ∨ a ∈ U) (hid (upd H1 p (.lst vs)) fun a => Z a ∨ a ∈ p :: U) := fun a o q => by
    obtain ⟨q1, q2⟩ := hid_some q
    have na : a ≠ p := ne_of_none q2 hp
    rw [hid_no (fun y => y.elim (fun y => q1 (.inl y)) fun y => (List.mem_cons.mp y).elim na fun y => q1 (.inr y)), upd_ne na]
    exact q2
  exact h _ _ (p :: U) (g1.trans (Gr.new hp)) (fun a ha => (List.mem_cons.mp ha).elim (fun q => by rw [q]; exact g1.free hp) (hU a)) (.lst upd_same (TreeA.gr e2 (fun a ha => upd_ne (np a ha)) t1) fun q => np p q rfl)
theorem sx_lst {n : Nat} {es : List Expr} {pos : Pos} {f : Vw → Rv (List D)} (h : SemXA S n es f) : SemX S (n + 1) (.List es pos) (lstD (lstF f)) := by
  obtain ⟨t, p, q⟩ := h.ex
  refine ⟨⟨_, fun X hX => pe_lst (p X hX), fun η σ H Z Q z hη h => ?_⟩⟩
  refine q η σ H Z _ z hη ?_
  unfold lstD lstF at h
  cases e : f η with
  | un => rw [e] at h; exact h
  | xc x => rw [e] at h; exact h
  | ok ds =>
    rw [e] at h
    intro vs H1 U g1 hU t1
    have hl := TreeA.length t1
    simp only [Rv.bind_ok] at h
    split at h
    · rename_i hd
      exact ⟨line_ge (by omega), fun p hp => h.newL g1 hU t1 hp⟩
    · exact False.elim h

/-- a function of the text, linked, that tells a tree of its own -/
structure LkT (T : Wd) (k : Nat) (x : Str) (n tr : Nat) (g : List D → Rv D) : Prop where
  ex : ∃ (f : Addr) (fd : FuncData) (ps : List Str), FnG T.P T.w T.K T.mg T.base k f fd ps (spT T.c T.mg n tr g) ∧ T.mg x = some (.ref f) ∧ PySem.W.keepIn T.K (.ref f) = true ∧ Binds T.K fd ps [] ∧ ps.length = n
theorem LkT.lk {T : Wd} {k : Nat} {x : Str} {n tr : Nat} {g : List D → Rv D} (F : LkT T k x n tr g) : Lk T k x n g :=
  let ⟨f, fd, ps, h1, h2, h3, h4, h5⟩ := F.ex; ⟨f, fd, ps, h1.weak h5, h2, h3, h4⟩
theorem sx_call {k n tr : Nat} {x : Str} {g : List D → Rv D} {e : Expr} {es : List Expr} {fa : Vw → Rv (List D)} {p pos : Pos} (F : LkT S.toWd k x n tr g) (ha : SemA S (e :: es) fa) (hlen : ∀ η ds, fa η = .ok ds → ds.length = n) (hk : Nat.ble k S.k = true := by rfl)
    (hg : S.sc.names.lookup x = some .globalImplicit := by rfl) (hdb : (x == ("__debug__" : Str)) = false := by decide) (he : ∀ env, starEach (e :: es) env = (false, eval e env) :: starEach es env := by intro _; rfl)
    (hpl : ∀ env, (backTo pos (starEach es env)).any (·.1) = false := by intro _; rfl) : SemX S tr (.Call (.Name x p) (e :: es) [] pos) (cal g fa) := by
  obtain ⟨f, fd, ps, F, hm, hkp, hb, hpl2⟩ := F.ex
  obtain ⟨t, pa, q⟩ := ha.ex
  refine ⟨⟨fun σ H Q => t σ H fun vs H1 => spT S.c S.mg n tr g vs H1 Q (WE S.W σ), fun X hX => ⟨fun pins s σ H Q I h => ?_⟩, fun η σ H Z Q z hη h => ?_⟩⟩
  · have hg' : Gl X x := by show X.env.scope.names.lookup x = _; rw [hX.hsc]; exact hg
    refine wpAny_Call_Name_kw (ld_glob I hg' (by rw [hX.hmg]; exact hm) ?_ hdb)
    refine PySem.W.callWith_K (h₀ := X.base) I.ok.mod.kin (by rw [hX.hK]; exact hkp) (thn ((pa X hX).run pos pins s σ H _ I h) ?_) (he _) (hpl _)
    intro us s1 ⟨vs, H1, I1, r, q1⟩
    refine ⟨I1.kIn, run_fnG ?_ hX.gd (hX.hr.mono (Nat.le_of_ble_eq_true hk)) (by rw [hX.hK]; exact hb) (passAt hX.tk σ) I1 r q1⟩
    rw [hX.hP, hX.hw, hX.hK, hX.hmg, hX.hb]
    exact F
  · refine q η σ H Z _ z hη ?_
    unfold cal at h
    cases e1 : fa η with
    | un => rw [e1] at h; exact h
    | xc x => rw [e1] at h; exact h
    | ok ds =>
      rw [e1] at h
      intro vs H1 g1 r1
      refine ⟨Z, ds, by rw [RpA.length r1, hlen η ds e1], z.gr g1, r1, ?_⟩
      have h := PostX.gr g1 (show PostX S tr σ Z H Q (g ds) from h)
      cases e2 : g ds with
      | un => rw [e2] at h; exact h
      | xc x => rw [e2] at h; exact h
      | ok d => rw [e2] at h; exact h

/-! ### statements -/
theorem run_x {n : Nat} {F H0 H : Hp} {Z : Addr → Prop} {ρ : Env'} {o : Nat → List Addr} {σ : L2.St} {M : List Nat} {T : VK} {r : Rv D} {f : D → Res} {Dn : Ends}
    (k : OkAt S.c F H0 Z ρ o σ H) (h : PostS S F H0 Z Dn (r.st f)) (go : ∀ d v H' U, r = .ok d → Gr H H' → (∀ a ∈ U, H a = none) → Tree S.c (hid H' fun a => hz Z ρ o M a ∨ a ∈ U) H' n v d U → PostS S F H0 Z Dn (f d) → T v H') :
    PostX S n σ (hz Z ρ o M) H T r := by
  cases r with
  | un => exact h
  | xc x => exact fun cls dx H' e q => h cls dx σ H' (k.gr.trans e) (k.out e) (q.gr ((Gr.refl H').hid2 fun a z => .inl z))
  | ok b => exact fun v H' U e hU t => go b v H' U rfl e hU t h
def asgX (i n : Nat) (M : List Nat) (f : Vw → Rv D) (ρ : Env') : Res := (f (vw M ρ)).st fun d => if i < ρ.length then .nx ((frz M ρ).set i (.ow n d)) else .un
/-- x = a tree of one's own -/
theorem ss_setX {i n : Nat} {x : Str} {e : Expr} {f : Vw → Rv D} {pos pos' : Pos} (M : List Nat) (he : SemX S n e f) (hi : S.N[i]? = some x := by rfl) (hx : L2.Loc S.sc x := by first | exact Or.inl rfl | exact Or.inr rfl) (hst : S.st x = true := by rfl) (hs : ∀ env, swapsWith e (some (.Name x pos')) pos.line env = pure false := by intro _; rfl) : SemS S (.Assign [.Name x pos'] e pos) (asgX i n M f) := by
  obtain ⟨t, p, q⟩ := he.ex
  refine ⟨⟨_, fun X hX => ps_set hX.nd (by rw [hX.hN]; exact hi) (by rw [hX.hsc]; exact hx) (p X hX) (hs _) (hX.fnl x hx hst), fun ρ F H0 Z σ H Dn ⟨o, k⟩ h => ?_⟩⟩
  refine q (vw M ρ) σ H (hz Z ρ o M) _ k.hin k.view (run_x k h fun d v H' U _ e hU t h' => ?_)
  split at h'
  · rename_i hl
    refine h' _ _ ⟨_, (k.freeze M).layT e hU (by rw [frz_length]; exact hl) fun Hv eh => t.gr (Gr.trans ((Gr.refl H').hid2 fun a y => ?_) eh) fun _ _ => rfl⟩
    exact y.imp (fun y => (hz_frz a).mp y) id
  · exact False.elim h'
theorem ss_retX {n : Nat} {e : Expr} {f : Vw → Rv D} {pos : Pos} (M : List Nat) (he : SemX S n e f) (ht : S.tr = n := by rfl) : SemS S (.Return (some e) pos) (ret M f) := by
  obtain ⟨t, p, q⟩ := he.ex
  refine ⟨⟨_, fun X hX => ps_ret (p X hX), fun ρ F H0 Z σ H Dn ⟨o, k⟩ h => ?_⟩⟩
  refine q (vw M ρ) σ H (hz Z ρ o M) _ k.hin k.view (run_x k h fun d v H' U _ e hU t h' => ?_)
  refine h' v H' U (k.gr.trans e) (fun a ha => k.gr.free (hU a ha)) ?_
  rw [ht]
  exact t.gr ((Gr.refl H').hid2 fun a y => y.imp (fun y => .inl y) id) fun _ _ => rfl

/-! ### x[i][j].append(e), x a tree of one's own -/
structure Zip (c : Cz) (Hv H : Hp) (n : Nat) (v : V) (U : List Addr) (m : Nat) (v' : V) (d' : D) (put : D → D) (U' : List Addr) : Prop where
  tree : Tree c Hv H m v' d' U'
  sub : ∀ a ∈ U', a ∈ U
  back : ∀ Hv2 H2 d2, Gr Hv Hv2 → (∀ a ∈ U, a ∉ U' → H2 a = H a) → Tree c Hv2 H2 m v' d2 U' → Tree c Hv2 H2 n v (put d2) U
theorem Zip.gr {c : Cz} {Hv Hv' H H' : Hp} {n : Nat} {v : V} {U : List Addr} {m : Nat} {v' : V} {d' : D} {put : D → D} {U' : List Addr} (e : Gr Hv Hv') (s : ∀ a ∈ U, H' a = H a) (z : Zip c Hv H n v U m v' d' put U') : Zip c Hv' H' n v U m v' d' put U' :=
  ⟨z.tree.gr e fun a ha => s a (z.sub a ha), z.sub, fun Hv2 H2 d2 e2 k t => z.back Hv2 H2 d2 (e.trans e2) (fun a ha hn => (k a ha hn).trans (s a ha)) t⟩
/-- one member of a row of trees -/
theorem TreeA.member {c : Cz} {Hv H : Hp} {n : Nat} {vs : List V} : ∀ {ds : List D} {U : List Addr} {i : Nat} {d : D}, TreeA c Hv H n vs ds U → ds[i]? = some d →
    ∃ v U', vs[i]? = some v ∧ Tree c Hv H n v d U' ∧ (∀ a ∈ U', a ∈ U) ∧ ∀ Hv2 H2 d2, Gr Hv Hv2 → (∀ a ∈ U, a ∉ U' → H2 a = H a) → Tree c Hv2 H2 n v d2 U' → TreeA c Hv2 H2 n vs (ds.set i d2) U := by
  induction vs with
  | nil => intro ds U i d h e; cases h; simp at e
  | cons w vs ih =>
    intro ds U i d h e
    cases h with
    | @cons _ _ _ d0 ds U1 W h1 h2 h3 =>
      cases i with
      | zero =>
        simp only [List.getElem?_cons_zero, Option.some.injEq] at e
        subst e
        refine ⟨w, U1, rfl, h1, fun a ha => List.mem_append_left _ ha, fun Hv2 H2 d2 e2 k t => .cons t (TreeA.gr e2 (fun a ha => k a (List.mem_append_right _ ha) fun q => h3 a q ha) h2) h3⟩
      | succ i =>
        rw [List.getElem?_cons_succ] at e
        obtain ⟨v, U', q1, q2, q3, q4⟩ := ih h2 e
        refine ⟨v, U', by rw [List.getElem?_cons_succ]; exact q1, q2, fun a ha => List.mem_append_right _ (q3 a ha), fun Hv2 H2 d2 e2 k t => ?_⟩
        refine .cons (h1.gr e2 fun a ha => k a (List.mem_append_left _ ha) fun q => h3 a ha (q3 a q)) (q4 Hv2 H2 d2 e2 (fun a ha hn => k a (List.mem_append_right _ ha) hn) t) h3
abbrev Foc := Nat × D × (D → D)
def pav (_ : Vw) (n : Nat) (d : D) : Rv Foc := .ok (n, d, id)
def foc1 (i : Int) : Foc → Rv Foc
  | (m + 1, .list xs, put) => match ixN xs.length i with | some k => (match xs[k]? with | some x => .ok (m, x, fun y => put (.list (xs.set k y))) | none => .un) | none => .un
  | (m + 1, .tuple xs, put) => if immA xs = true then .un else match ixN xs.length i with | some k => (match xs[k]? with | some x => .ok (m + 1, x, fun y => put (.tuple (xs.set k y))) | none => .un) | none => .un
  | _ => .un
def pai (f : Vw → Nat → D → Rv Foc) (fi : Vw → Rv D) (η : Vw) (n : Nat) (d : D) : Rv Foc := (f η n d).bind fun p => (fi η).bind fun i => match i with | .int i => foc1 i p | _ => .un
def PostP (S : Sx) (σ : L2.St) (Z : Addr → Prop) (n : Nat) (v : V) (U : List Addr) (H : Hp) (Q : VK) : Rv Foc → Prop
  | .un => False
  | .ok (m, d', put) => ∀ v' U' H', Gr H H' → Zip S.c (hid H' Z) H' n v U m v' d' put U' → Q v' H'
  | .xc x => ∀ cls dx H', Gr H H' → XcR S.c S.mg (hid H' Z) x cls dx → S.W cls dx σ H'
structure SemPa (S : Sx) (j : Nat) (e : Expr) (f : Vw → Nat → D → Rv Foc) : Prop where
  ex : ∃ t, (∀ X, S.At X → PE X e t) ∧ ∀ η σ H Z n d v U Q, In Z H → Vok S.c (hid H Z) η σ → σ[j]? = some (some v) → Tree S.c (hid H Z) H n v d U → PostP S σ Z n v U H Q (f η n d) → t σ H Q
theorem spa_var {x : Str} {pos : Pos} (j : Nat) (hN : S.N[j]? = some x := by rfl) (hv : Vis S.sc x := by first | exact Or.inl rfl | exact Or.inr (Or.inl rfl) | exact Or.inr (Or.inr rfl)) (hd : (x == ("__debug__" : Str)) = false := by decide)
    (hcd : (x == ("__classdict__" : Str)) = false := by decide) : SemPa S j (.Name x pos) pav :=
  ⟨⟨_, fun X hX => pe_var (by rw [hX.hN]; exact hN) (by rw [hX.hsc]; exact hv) hd hcd, fun η σ H Z n d v U Q z hη e1 t h => ⟨v, e1, h v U H (Gr.refl H) ⟨t, fun a ha => ha, fun Hv2 H2 d2 e2 k t2 => t2⟩⟩⟩⟩
theorem Tree.same {c : Cz} {Hv H H' : Hp} {n : Nat} {v : V} {d : D} {U : List Addr} (t : Tree c Hv H n v d U) (e : Gr H H') {a : Addr} (ha : a ∈ U) : H' a = H a := by
  cases w : H a with
  | none => exact absurd w (t.some ha)
  | some o => exact e _ _ w
theorem spa_ix {j : Nat} {a b : Expr} {f : Vw → Nat → D → Rv Foc} {fb : Vw → Rv D} {pos : Pos} (ha : SemPa S j a f) (hb : SemE S b fb) (hs : PlainIx b := by intro _ _; rfl) : SemPa S j (.Subscript a b pos) (pai f fb) := by
  obtain ⟨ta, pa, qa⟩ := ha.ex
  obtain ⟨tb, pb, qb⟩ := hb.ex
  refine ⟨⟨_, fun X hX => pe_ix (hX.hK ▸ ix_seq) (pa X hX) (pb X hX) hs, fun η σ H Z n d v U Q z hη e1 t h => ?_⟩⟩
  refine qa η σ H Z n d v U _ z hη e1 t ?_
  unfold pai at h
  cases ef : f η n d with
  | un => rw [ef] at h; exact h
  | xc x => rw [ef] at h; exact h
  | ok p =>
    obtain ⟨m, d', put⟩ := p
    rw [ef] at h
    intro v' U' H1 g1 zp
    refine qb η σ H1 Z _ (z.gr g1) (hη.gr (g1.hid Z)) ?_
    simp only [Rv.bind_ok] at h
    cases eb : fb η with
    | un => rw [eb] at h; exact h
    | xc x => rw [eb] at h; exact fun cls dx H' e q => h cls dx H' (g1.trans e) q
    | ok i =>
      rw [eb] at h
      intro iv H2 g2 ri
      have same : ∀ a ∈ U, H2 a = H1 a := fun a hm => by
        rw [t.same (g1.trans g2) hm, t.same g1 hm]
      have zp := zp.gr (g2.hid Z) same
      simp only [Rv.bind_ok] at h
      cases ri with
      | int i =>
        cases zp.tree with
        | leaf0 r => exact False.elim h
        | leaf im r =>
          have h : PostP S σ Z n v U H Q (foc1 i (m, d', put)) := h
          cases m with
          | zero => exact False.elim h
          | succ m =>
            cases d' with
            | list xs => exact absurd im (by unfold imm; exact Bool.false_ne_true)
            | tuple xs =>
              have h : PostP S σ Z n v U H Q (if immA xs = true then .un else match ixN xs.length i with | some k => (match xs[k]? with | some x => .ok (m + 1, x, fun y => put (.tuple (xs.set k y))) | none => .un) | none => .un) := h
              unfold imm at im
              rw [if_pos im] at h
              exact False.elim h
            | _ => exact False.elim h
        | @lst m a xs ds W h1 h2 h3 =>
          have h : PostP S σ Z n v U H Q (match ixN ds.length i with | some k => (match ds[k]? with | some x => .ok (m, x, fun y => put (.list (ds.set k y))) | none => .un) | none => .un) := h
          cases ei : ixN ds.length i with
          | none => rw [ei] at h; exact False.elim h
          | some k =>
            simp only [ei] at h
            cases ex : ds[k]? with
            | none => rw [ex] at h; exact False.elim h
            | some x =>
              simp only [ex] at h
              obtain ⟨w, W', q1, q2, q3, q4⟩ := TreeA.member h2 ex
              refine .inl ⟨_, _, i, w, rfl, rfl, .inl (.inl h1), by unfold L2.atI; rw [TreeA.length h2, ei]; exact q1, h w W' H2 (g1.trans g2) ⟨q2, fun a ha => zp.sub a (List.mem_cons_of_mem _ (q3 a ha)), fun Hv2 H3 d2 e2 kk t2 => ?_⟩⟩
              have kW : ∀ b ∈ a :: W, b ∉ W' → H3 b = H2 b := fun b hb hn => kk b (zp.sub b hb) hn
              refine zp.back Hv2 H3 _ e2 (fun b hb hn => kk b hb fun q => hn (List.mem_cons_of_mem _ (q3 b q))) ?_
              exact .lst (by rw [kW a List.mem_cons_self fun q => h3 (q3 a q)]; exact h1) (q4 Hv2 H3 d2 e2 (fun b hb hn => kW b (List.mem_cons_of_mem _ hb) hn) t2) h3
        | @tup m a xs ds W h1 h2 =>
          have h : PostP S σ Z n v U H Q (if immA ds = true then .un else match ixN ds.length i with | some k => (match ds[k]? with | some x => .ok (m + 1, x, fun y => put (.tuple (ds.set k y))) | none => .un) | none => .un) := h
          split at h
          · exact False.elim h
          cases ei : ixN ds.length i with
          | none => rw [ei] at h; exact False.elim h
          | some k =>
            simp only [ei] at h
            cases ex : ds[k]? with
            | none => rw [ex] at h; exact False.elim h
            | some x =>
              simp only [ex] at h
              obtain ⟨w, W', q1, q2, q3, q4⟩ := TreeA.member h2 ex
              refine .inr (.inl ⟨_, _, i, w, rfl, rfl, (Gr.hid_le _ _).sqT h1, by unfold L2.atI; rw [TreeA.length h2, ei]; exact q1, h w W' H2 (g1.trans g2) ⟨q2, fun a ha => zp.sub a (q3 a ha), fun Hv2 H3 d2 e2 kk t2 => ?_⟩⟩)
              refine zp.back Hv2 H3 _ e2 (fun b hb hn => kk b hb fun q => hn (q3 b q)) ?_
              exact .tup (e2.sqT h1) (q4 Hv2 H3 d2 e2 (fun b hb hn => kk b (zp.sub b hb) hn) t2)
        | dctK _ _ _ => exact False.elim h
        | dctN _ _ _ _ => exact False.elim h
      | _ => exact False.elim h
theorem run_eg {A B : Type} {R : Hp → A → B → Prop} {F H0 H : Hp} {Z : Addr → Prop} {ρ : Env'} {o : Nat → List Addr} {σ : L2.St} {M : List Nat} {T : A → Hp → Prop} {r : Rv B} {f : B → Res} {Dn : Ends}
    (k : OkAt S.c F H0 Z ρ o σ H) (h : PostS S F H0 Z Dn (r.st f)) (go : ∀ b v H', r = .ok b → Gr H H' → OkAt S.c F H0 Z ρ o σ H' → R (hid H' (hz Z ρ o M)) v b → PostS S F H0 Z Dn (f b) → T v H') :
    Post S R σ (hz Z ρ o M) H T r := by
  cases r with
  | un => exact h
  | xc x => exact fun cls dx H' e q => h cls dx σ H' (k.gr.trans e) (k.out e) (q.gr ((Gr.refl H').hid2 fun a z => .inl z))
  | ok b => exact fun v H' e q => go b v H' rfl e (k.grow e) q h
def appP (j : Nat) (fp : Vw → Nat → D → Rv Foc) (f : Vw → Rv D) (ρ : Env') : Res := match ρ[j]? with
  | some (.ow n d) => (fp (vw [] ρ) n d).st fun p => match p with
    | (_ + 1, .list xs, put) => (f (vw [] ρ)).st fun y => if xs.length < 16000000 ∧ imm y = true then .nx (ρ.set j (.ow n (put (.list (xs ++ [y]))))) else .un
    | _ => .un
  | _ => .un
theorem ss_appP {j : Nat} {b : Expr} {e : Expr} {fp : Vw → Nat → D → Rv Foc} {f : Vw → Rv D} {p2 p3 p4 : Pos} (hb : SemPa S j b fp) (he : SemE S e f) (hbase : ∀ env, attributeBase b "append" env (eval b env) = eval b env := by intro _; rfl)
    (hfew : ∀ env, ((backTo p3 (starEach [e] env)).all (fun x => !x.1) && (backToKw p3 (keywordEach [] env)).all (fun x => x.1.isSome)
      && decide (([e] : List Expr).length + ([] : List Keyword).length + (if ([] : List Keyword).isEmpty then 0 else 1) < 30)) = true := by intro _; rfl)
    (hline : (p2.endLine == p3.line) = true := by rfl) (hs : ∀ env, starEach [e] env = (false, eval e env) :: starEach [] env := by intro _; rfl) (hplain : ∀ env, (backTo p3 (starEach [] env)).any (·.1) = false := by intro _; rfl)
    (hsw : ∀ env, swapsWith (.Call (.Attribute b "append" p2) [e] [] p3) none p4.line env = pure false := by intro _; rfl) : SemS S (.Expr (.Call (.Attribute b "append" p2) [e] [] p3) p4) (appP j fp f) := by
  obtain ⟨tb, pb, qb⟩ := hb.ex
  obtain ⟨t, p, q⟩ := he.ex
  refine ⟨⟨tDrop (tBM S.K "list" rAppend tb (tCons t tNil)), fun X hX => ?_, fun ρ F H0 Z σ H Dn ⟨o, k⟩ h => ?_⟩⟩
  · rw [← hX.hK]
    exact ps_expr (pe_bm PySem.F.plainAttrs_list PySem.F.slot_list_append PySem.F.type_list_append mt_append (pb X hX) (pa_cons (p X hX) pa_nil (hs _)) (hbase _) (hfew _) hline (hs _) (hplain _)) (hsw _)
  unfold appP at h
  split at h
  · rename_i n d hj
    obtain ⟨⟨v0, s1, tr⟩, s2⟩ := k.ow j _ _ hj
    refine qb (vw [] ρ) σ H (hz Z ρ o []) n d v0 (o j) _ k.hin k.view s1 tr ?_
    cases ep : fp (vw [] ρ) n d with
    | un => rw [ep] at h; exact h
    | xc x => rw [ep] at h; exact fun cls dx H' e q => h cls dx σ H' (k.gr.trans e) (k.out e) (q.gr ((Gr.refl H').hid2 fun a z => .inl z))
    | ok pp =>
      obtain ⟨m, d', put⟩ := pp
      rw [ep] at h
      simp only [Rv.st_ok] at h
      intro v' U' H1 g1 zp
      split at h
      · rename_i m' xs put' hq
        cases hq
        obtain ⟨a, vs, W, rfl, rfl, s4, s5, s6⟩ := zp.tree.isL
        refine ⟨.inl ⟨rfl, vs, .inl (.inl s4)⟩, ?_⟩
        have k1 := k.grow g1
        refine q (vw [] ρ) σ H1 (hz Z ρ o []) _ k1.hin k1.view (run_eg k1 h fun y yv H' _ g2 k' r h' => ?_)
        have zp' := zp.gr (H' := H') (g2.hid (hz Z ρ o [])) fun a ha => by rw [tr.same (g1.trans g2) ha, tr.same g1 ha]
        split at h'
        · rename_i hlt
          obtain ⟨a', vs', W', ea, hU', w4, w5, w6⟩ := zp'.tree.isL
          cases ea
          cases hU'
          have hl := TreeA.length w5
          refine ⟨a, vs', yv, rfl, rfl, w4, line_gt (by omega), ?_⟩
          have aIn : a ∈ o j := zp'.sub a List.mem_cons_self
          refine h' _ _ ⟨o, k'.change hj s1 (fun b hb => upd_ne fun z => hb (z ▸ aIn)) fun Hv eh => ?_⟩
          refine zp'.back Hv _ _ eh (fun b hb hn => upd_ne fun z => hn (z ▸ List.mem_cons_self)) ?_
          exact .lst upd_same (TreeA.snoc (.leaf hlt.2 (r.gr eh)) (TreeA.gr eh (fun b hb => upd_ne fun z => w6 (z ▸ hb)) w5)) w6
        · exact False.elim h'
      · exact False.elim h
  · exact False.elim h
end
end Bv

namespace Bv
open PySem PySem.Spec L2 PyProof.Rows

/-! ### comprehensions -/
def Sx.blk (S : Sx) (scope : Scope) : Sx := { S with sc := relS scope S.sc, W := fun _ _ _ _ => False, df := false, st := fun x => scope.names.lookup x == some .local || scope.names.lookup x == some .cell }
theorem Sx.At.blk {S : Sx} {X : Cx} (h : S.At X) (scope : Scope) (s : Shared) (H : Hp) (C : Addr) (cl : List (Str × Addr)) (fp : List Addr) : (S.blk scope).At (X.blk s H scope (compEnvC scope cl C X.env) fp) where
  hP := h.hP
  hw := h.hw
  hK := h.hK
  hmg := h.hmg
  hb := h.hb
  hN := h.hN
  hsc := by show relS scope X.env.scope = relS scope S.sc; rw [h.hsc]
  nd := h.nd
  calm := h.calm
  gd := h.gd
  hr := h.hr
  tk := fun _ _ x => by
    obtain ⟨_, _, _, _, _, _, _, _, _, _, _, _, _, _, _, _, z⟩ := x
    exact z.elim
  fnl := fun x hl hs => by
    have hs : (scope.names.lookup x == some .local || scope.names.lookup x == some .cell) = true := hs
    show (scope.names.lookup x == some .cell) = true ∨ (relS scope X.env.scope).names.lookup x = some .local
    rw [Bool.or_eq_true] at hs
    rcases hs with hs | hs
    · exact .inr (lookup_relS_keep (by decide) (eq_of_beq hs))
    · exact .inl hs
  pass := fun z => by cases z
  body := fun z => by cases z

def wipeV : List Nat → Vw → Vw
  | [], η => η
  | v :: vs, η => (wipeV vs η).set v none
theorem wipeV_length : ∀ (vs : List Nat) (η : Vw), (wipeV vs η).length = η.length
  | [], _ => rfl
  | v :: vs, η => by simp [wipeV, wipeV_length vs]
theorem Vok.wipe {c : Cz} {H : Hp} {η : Vw} {σ : L2.St} (h : Vok c H η σ) : ∀ vs, Vok c H (wipeV vs η) (L2.wipe σ vs)
  | [] => h
  | v :: vs => by
    have ih := Vok.wipe h vs
    refine ⟨by rw [wipeV_length, L2.wipe_length]; exact h.1, fun i d e => ?_⟩
    unfold wipeV at e
    by_cases q : v = i
    · subst q
      rw [List.getElem?_set] at e
      split at e
      · split at e <;> cases e
      · contradiction
    · rw [List.getElem?_set_ne q] at e
      obtain ⟨x, h1, h2⟩ := ih.2 i d e
      exact ⟨x, by unfold L2.wipe; rw [List.getElem?_set_ne q]; exact h1, h2⟩
theorem Vok.put {c : Cz} {H : Hp} {η : Vw} {σ : L2.St} (h : Vok c H η σ) {i : Nat} {v : V} {d : D} (r : Rp c H v d) : Vok c H (η.set i (some d)) (σ.set i (some v)) := by
  refine ⟨by simp; exact h.1, fun j e q => ?_⟩
  have hl := h.1
  by_cases z : i = j
  · subst z
    rw [List.getElem?_set] at q
    split at q
    · split at q
      · cases q
        exact ⟨v, by rw [List.getElem?_set_self (by omega)], r⟩
      · cases q
    · contradiction
  · rw [List.getElem?_set_ne z] at q
    obtain ⟨x, h1, h2⟩ := h.2 j e q
    exact ⟨x, by rw [List.getElem?_set_ne z]; exact h1, h2⟩
theorem wipe_set {σ : L2.St} {i : Nat} {x : Option V} : ∀ {vs : List Nat}, i ∈ vs → L2.wipe (σ.set i x) vs = L2.wipe σ vs
  | [], h => by cases h
  | v :: vs, h => by
    by_cases q : i ∈ vs
    · unfold L2.wipe
      rw [wipe_set q]
    · have e : i = v := (List.mem_cons.mp h).resolve_right q
      subst e
      have key : ∀ ws : List Nat, i ∉ ws → L2.wipe (σ.set i x) ws = (L2.wipe σ ws).set i x := by
        intro ws
        induction ws with
        | nil => intro _; rfl
        | cons w ws ih =>
          intro hw
          rw [List.mem_cons, not_or] at hw
          unfold L2.wipe
          rw [ih hw.2, List.set_comm _ _ hw.1]
      unfold L2.wipe
      rw [key vs q, List.set_set]
/-- a block's target -/
structure SemTv (S : Sx) (tg : Expr) (vs : List Nat) (b : D → Vw → Option Vw) : Prop where
  ex : ∃ g : TG, (∀ X, S.At X → PG X tg g) ∧ ∀ d v η η' σ H Hv Q, Gr Hv H → Vok S.c Hv η σ → Rp S.c Hv v d → b d η = some η' → (∀ σ', Vok S.c Hv η' σ' → L2.wipe σ' vs = L2.wipe σ vs → Q σ' H) → g v σ H Q
def vName (i : Nat) (d : D) (η : Vw) : Option Vw := some (η.set i (some d))
theorem tv_name (i : Nat) {vs : List Nat} {x : Str} {pos : Pos} {S : Sx} (hi : S.N[i]? = some x := by rfl) (hx : L2.Loc S.sc x := by first | exact Or.inl rfl | exact Or.inr rfl) (hst : S.st x = true := by rfl) (hv : i ∈ vs := by decide) : SemTv S (.Name x pos) vs (vName i) :=
  ⟨⟨_, fun X hX => pg_name hX.nd (by rw [hX.hN]; exact hi) (by rw [hX.hsc]; exact hx) (hX.fnl x hx hst), fun d v η η' σ H Hv Q e hη r eb q => by
    cases eb
    exact q _ (hη.put r) (wipe_set hv)⟩⟩
def setAllV : List Nat → List D → Vw → Option Vw
  | [], [], η => some η
  | i :: is, d :: ds, η => setAllV is ds (η.set i (some d))
  | _, _, _ => none
def vTup (is : List Nat) (d : D) (η : Vw) : Option Vw := match d with | .tuple ds => setAllV is ds η | _ => none
theorem setAllV_len : ∀ {is : List Nat} {ds : List D} {ρ ρ' : Vw}, setAllV is ds ρ = some ρ' → is.length = ds.length
  | [], [], _, _, _ => rfl
  | i :: is, d :: ds, _, _, e => by simp [setAllV_len (is := is) (ds := ds) (by simpa [setAllV] using e)]
  | [], _ :: _, _, _, e => by cases e
  | _ :: _, [], _, _, e => by cases e
theorem setAllV_run {c : Cz} {vs : List Nat} {H Hv : Hp} {Q : L2.St → Hp → Prop} {σ0 : L2.St} : ∀ {is : List Nat} {ds : List D} {xs : List V} {η η' : Vw} {σ : L2.St}, (∀ i ∈ is, i ∈ vs) → Vok c Hv η σ → RpA c Hv xs ds → setAllV is ds η = some η' →
    L2.wipe σ vs = L2.wipe σ0 vs → (∀ σ', Vok c Hv η' σ' → L2.wipe σ' vs = L2.wipe σ0 vs → Q σ' H) → gNames is xs σ H Q
  | [], [], _, η, η', σ, _, k, r, e, hw, q => by
    cases r
    cases e
    exact ⟨rfl, q σ k hw⟩
  | i :: is, d :: ds, _, η, η', σ, hi, k, r, e, hw, q => by
    cases r with
    | @cons v vs _ _ r1 r2 =>
      have h1 := hi i List.mem_cons_self
      exact ⟨v, vs, rfl, setAllV_run (η := η.set i (some d)) (fun j hj => hi j (List.mem_cons_of_mem _ hj)) (k.put r1) r2 e ((wipe_set h1).trans hw) q⟩
  | [], _ :: _, _, _, _, _, _, _, _, e, _, _ => by cases e
  | _ :: _, [], _, _, _, _, _, _, _, e, _, _ => by cases e
theorem tv_tup {S : Sx} {ts : List Expr} {is vs : List Nat} {kt : Nat} {pt : Pos} (hg : SemG S ts is) (hi : ∀ i ∈ is, i ∈ vs := by decide) (hn : ∀ env, (assignEach ts env).length = is.length := by intro _; rfl) (hst : ∀ env, (assignEach ts env).findIdx? (·.1) = none := by intro _; rfl) : SemTv S (.Tuple ts kt pt) vs (vTup is) := by
  refine ⟨⟨gTup S.K is.length (gNames is), fun X hX => ?_, fun d v η η' σ H Hv Q e hη r eb q => ?_⟩⟩
  · rw [← hX.hK]
    exact pg_tup hX.calm (hg.ex X hX) (hn _) (hst _)
  · cases r with
    | @tup a xs ds r1 r2 =>
      exact ⟨a, xs, rfl, e.sqT r1, by rw [RpA.length r2, setAllV_len eb], setAllV_run hi hη r2 eb rfl q⟩
    | _ => cases eb

/-- a block's tests: none or one -/
structure SemP (S : Sx) (ifs : List Expr) (f : Vw → Rv Bool) : Prop where
  ex : ∃ t, (∀ X, S.At X → PTs X ifs t) ∧ Tells S RT t f
def yes (_ : Vw) : Rv Bool := .ok true
theorem sp_nil {S : Sx} : SemP S [] yes := ⟨⟨_, fun _ _ => pts_nil, fun _ _ _ _ _ _ _ h => Post.ok (R := RT) h rfl⟩⟩
theorem sp_one {S : Sx} {c : Expr} {f : Vw → Rv Bool} (h : SemT S c f) : SemP S [c] f := let ⟨t, p, q⟩ := h.ex; ⟨⟨t, fun X hX => pts_one (p X hX), q⟩⟩

def Rv.nox {A : Type} (r : Rv A) : Rv A := match r with | .xc _ => .un | r => r
@[simp] theorem Rv.nox_ok {A : Type} (a : A) : (Rv.ok a).nox = .ok a := rfl
@[simp] theorem Rv.nox_un {A : Type} : (Rv.un : Rv A).nox = .un := rfl
def compL (b : D → Vw → Option Vw) (ft : Vw → Rv Bool) (fe : Vw → Rv D) : List D → Vw → Rv (List D)
  | [], _ => .ok []
  | d :: r, η => match b d η with
    | none => .un
    | some η' => (ft η').nox.bind fun k => if k = true then (fe η').nox.bind fun y => (compL b ft fe r η).bind fun ys => .ok (y :: ys) else compL b ft fe r η
theorem compL_nox {b : D → Vw → Option Vw} {ft : Vw → Rv Bool} {fe : Vw → Rv D} : ∀ (xs : List D) (η : Vw) (x : Xc), compL b ft fe xs η ≠ .xc x
  | [], _, _, h => by cases h
  | d :: r, η, x, h => by
    unfold compL at h
    cases eb : b d η with
    | none => simp only [eb] at h; cases h
    | some η' =>
      simp only [eb] at h
      have ih := compL_nox (b := b) (ft := ft) (fe := fe) r η
      cases e1 : ft η' with
      | un => rw [e1] at h; cases h
      | xc x => rw [e1] at h; cases h
      | ok k =>
        rw [e1] at h
        cases k with
        | false => exact ih x h
        | true =>
          cases e2 : fe η' with
          | un => rw [e2] at h; cases h
          | xc x => rw [e2] at h; cases h
          | ok y =>
            rw [e2] at h
            cases e3 : compL b ft fe r η with
            | un => rw [e3] at h; cases h
            | xc z => exact ih z e3
            | ok ys => rw [e3] at h; cases h

theorem del_upd {H : Hp} {p : Addr} {o : HO} (h : H p = some o) : upd (del H p) p o = H := by
  funext a
  by_cases e : a = p
  · subst e; rw [upd_same, h]
  · rw [upd_ne e, del_ne e]
theorem hid_upd {H : Hp} {Z : Addr → Prop} {p : Addr} {o : HO} (h : Z p) : hid (upd H p o) Z = hid H Z := by
  funext a
  by_cases e : Z a
  · rw [hid_yes e, hid_yes e]
  · rw [hid_no e, hid_no e, upd_ne fun q => e (by rw [q]; exact h)]
section
variable {S : Sx}
/-- hidden while a block fills the list at Dl -/
abbrev zf (Z : Addr → Prop) (Dl : Addr) (U : List Addr) : Addr → Prop := fun a => (Z a ∨ a = Dl) ∨ a ∈ U
/-- the state while a block fills the list at Dl -/
def Fills (S : Sx) (n : Nat) (H1 : Hp) (Z : Addr → Prop) (Dl : Addr) (fin : List D) (rest : Rv (List D)) (H : Hp) : Prop :=
  ∃ acc ds more U, H Dl = some (.lst acc) ∧ Gr H1 (del H Dl) ∧ (∀ a ∈ U, H1 a = none ∧ a ≠ Dl) ∧ TreeA S.c (hid H (zf Z Dl U)) H n acc ds U ∧ rest = .ok more ∧ ds ++ more = fin
theorem TreeA.more {c : Cz} {Hv H : Hp} {n : Nat} {v : V} {d : D} {W : List Addr} (hd : Tree c Hv H n v d W) {vs : List V} : ∀ {ds : List D} {U : List Addr}, TreeA c Hv H n vs ds U → (∀ a ∈ U, a ∉ W) → TreeA c Hv H n (vs ++ [v]) (ds ++ [d]) (U ++ W) := by
  induction vs with
  | nil =>
    intro ds U h _
    cases h
    have := TreeA.cons hd (TreeA.nil (c := c) (Hv := Hv) (H := H) (n := n)) (fun a _ h => by cases h)
    rw [List.append_nil] at this
    exact this
  | cons w vs ih =>
    intro ds U h k
    cases h with
    | @cons _ _ _ _ _ U1 W1 h1 h2 h3 =>
      rw [List.append_assoc]
      exact .cons h1 (ih h2 fun a ha => k a (List.mem_append_right _ ha)) fun a ha q => (List.mem_append.mp q).elim (h3 a ha) (k a (List.mem_append_left _ ha))
theorem fill_turn {n : Nat} {scope : Scope} {vs : List Nat} {b : D → Vw → Option Vw} {ft : Vw → Rv Bool} {fe : Vw → Rv D} {g : TG} {tt : TT} {te : TE}
    (qg : ∀ d v η η' σ H Hv Q, Gr Hv H → Vok S.c Hv η σ → Rp S.c Hv v d → b d η = some η' → (∀ σ', Vok S.c Hv η' σ' → L2.wipe σ' vs = L2.wipe σ vs → Q σ' H) → g v σ H Q)
    (qt : Tells (S.blk scope) RT tt ft) (qe : TellsX (S.blk scope) n te fe) {η : Vw} {σ : L2.St} {H1 H : Hp} {Z : Addr → Prop} {Dl : Addr} {fin : List D} {d : D} {r : List D} {v : V} {Nx : Hp → Prop}
    (z : In Z H1) (hη : Vok S.c (hid H1 Z) η σ) (hD : H1 Dl = none) (hf : fin.length ≤ 16000000) (rv : Rp S.c (hid H1 Z) v d) (hww : L2.wipe (L2.wipe σ vs) vs = L2.wipe σ vs)
    (w : Fills S n H1 Z Dl fin (compL b ft fe (d :: r) (wipeV vs η)) H) (k : ∀ H', Fills S n H1 Z Dl fin (compL b ft fe r (wipeV vs η)) H' → Nx H') :
    g v (L2.wipe σ vs) H fun σ2 H2 => L2.wipe σ2 vs = L2.wipe σ vs ∧ tt σ2 H2 fun b H3 => if b = true then te σ2 H3 fun y H4 => ∃ acc, H4 Dl = some (.lst acc) ∧ acc.length < sizeLine ∧ Nx (upd H4 Dl (.lst (acc ++ [y]))) else Nx H3 := by
  obtain ⟨acc, ds, more, U, a1, a2, aU, a3, a4, a5⟩ := w
  have up : ∀ {H3 : Hp}, Gr H H3 → Gr H1 (del H3 Dl) := fun e a o q => by
    have na : a ≠ Dl := ne_of_none q hD
    have := a2 a o q
    rw [del_ne na] at this ⊢
    exact e a o this
  have e0 : Gr (hid H1 Z) (hid H (zf Z Dl U)) := fun a o q => by
    obtain ⟨q1, q2⟩ := hid_some q
    have na : a ≠ Dl := ne_of_none q2 hD
    rw [hid_no (by rintro ((q3 | q3) | q3); exact q1 q3; exact na q3; rw [(aU a q3).1] at q2; cases q2)]
    have := a2 a o q2
    rw [del_ne na] at this
    exact this
  have zin : In (zf Z Dl U) H := by
    rintro a ((q | q) | q)
    · have na : a ≠ Dl := fun e => z a q (e ▸ hD)
      intro n
      cases e : H1 a with
      | none => exact z a q e
      | some o =>
        have := a2 a o e
        rw [del_ne na, n] at this
        cases this
    · rw [q, a1]; exact fun n => by cases n
    · obtain ⟨xs, e, _⟩ := TreeA.lists a3 a q
      rw [e]; exact fun n => by cases n
  unfold compL at a4
  cases eb : b d (wipeV vs η) with
  | none => simp only [eb] at a4; cases a4
  | some η' =>
    simp only [eb] at a4
    refine qg d v (wipeV vs η) η' (L2.wipe σ vs) H _ _ (Gr.hid_le H _) ((hη.wipe vs).gr e0) (rv.gr e0) eb fun σ' hv' hw' => ⟨hw'.trans hww, ?_⟩
    refine qt η' σ' H _ _ zin hv' ?_
    cases e1 : ft η' with
    | un => rw [e1] at a4; cases a4
    | xc x => rw [e1] at a4; cases a4
    | ok kk =>
      rw [e1] at a4
      intro u H3 e3 ru
      have ru : u = kk := ru
      subst ru
      have same : ∀ {H4 : Hp}, Gr H H4 → ∀ a ∈ U, H4 a = H a := fun e a ha => by
        obtain ⟨xs, q, _⟩ := TreeA.lists a3 a ha
        rw [q]; exact e _ _ q
      cases u with
      | false => exact k H3 ⟨acc, ds, more, U, e3 _ _ a1, up e3, aU, TreeA.gr (e3.hid _) (same e3) a3, a4, a5⟩
      | true =>
        refine qe η' σ' H3 _ _ (zin.gr e3) (hv'.gr (e3.hid _)) ?_
        cases e2 : fe η' with
        | un => simp only [Rv.nox_ok, Rv.bind_ok, if_true, e2] at a4; cases a4
        | xc x => simp only [Rv.nox_ok, Rv.bind_ok, if_true, e2] at a4; cases a4
        | ok y =>
          simp only [Rv.nox_ok, Rv.bind_ok, if_true, e2] at a4
          intro yv H4 W e4 hW ry
          cases e5 : compL b ft fe r (wipeV vs η) with
          | un => rw [e5] at a4; cases a4
          | xc x => rw [e5] at a4; cases a4
          | ok ys =>
            rw [e5] at a4
            cases a4
            have e34 := e3.trans e4
            have c1 : H4 Dl = some (.lst acc) := e34 _ _ a1
            have hlen := TreeA.length a3
            have hfl : ds.length + (y :: ys).length = fin.length := by rw [← a5, List.length_append]
            simp only [List.length_cons] at hfl
            have nD : ∀ a ∈ W, a ≠ Dl := fun a ha q => by have := hW a ha; rw [q, e3 _ _ a1] at this; cases this
            have nD' : ∀ a ∈ U ++ W, a ≠ Dl := fun a ha => (List.mem_append.mp ha).elim (fun q => (aU a q).2) (nD a)
            have sub : ∀ a, zf Z Dl (U ++ W) a → zf Z Dl U a ∨ a ∈ W := fun a q => by
              rcases q with q | q
              · exact .inl (.inl q)
              · rcases List.mem_append.mp q with q | q
                · exact .inl (.inr q)
                · exact .inr q
            have gA : Gr (hid H (zf Z Dl U)) (hid H4 (zf Z Dl (U ++ W))) := fun a o q => by
              obtain ⟨q1, q2⟩ := hid_some q
              rw [hid_no fun q3 => (sub a q3).elim q1 fun q4 => by have := hW a q4; rw [e3 _ _ q2] at this; cases this]
              exact e34 _ _ q2
            have gB : Gr (hid H4 fun a => zf Z Dl U a ∨ a ∈ W) (hid H4 (zf Z Dl (U ++ W))) := (Gr.refl H4).hid2 sub
            have dis : ∀ a ∈ U, a ∉ W := fun a ha q => by
              obtain ⟨xs, q2, _⟩ := TreeA.lists a3 a ha
              have := hW a q
              rw [e3 _ _ q2] at this; cases this
            have hu : hid (upd H4 Dl (.lst (acc ++ [yv]))) (zf Z Dl (U ++ W)) = hid H4 (zf Z Dl (U ++ W)) := hid_upd (.inl (.inr rfl))
            refine ⟨acc, c1, line_gt (by omega), k _ ⟨acc ++ [yv], ds ++ [y], ys, U ++ W, upd_same, ?_, ?_, ?_, e5, by rw [List.append_assoc]; exact a5⟩⟩
            · intro a o q
              have na : a ≠ Dl := ne_of_none q hD
              have := up e34 a o q
              rw [del_ne na] at this
              rw [del_ne na, upd_ne na]
              exact this
            · intro a ha
              refine ⟨?_, nD' a ha⟩
              rcases List.mem_append.mp ha with ha | ha
              · exact (aU a ha).1
              · have na := nD a ha
                cases q : H1 a with
                | none => rfl
                | some o =>
                  have := up e3 a o q
                  rw [del_ne na, hW a ha] at this
                  cases this
            · rw [hu]
              have s2 : ∀ a ∈ U ++ W, upd H4 Dl (.lst (acc ++ [yv])) a = H4 a := fun a ha => upd_ne (nD' a ha)
              exact TreeA.gr (Gr.refl _) s2 (TreeA.more (ry.gr gB fun _ _ => rfl) (TreeA.gr gA (same e34) a3) dis)
theorem wipe_wipe (σ : L2.St) (vs : List Nat) : L2.wipe (L2.wipe σ vs) vs = L2.wipe σ vs := by
  have key : ∀ (ws : List Nat), (∀ w ∈ ws, w ∈ vs) → L2.wipe (L2.wipe σ ws) vs = L2.wipe σ vs := by
    intro ws
    induction ws with
    | nil => intro _; rfl
    | cons w ws ih =>
      intro h
      show L2.wipe ((L2.wipe σ ws).set w none) vs = _
      rw [wipe_set (h w List.mem_cons_self)]
      exact ih fun x hx => h x (List.mem_cons_of_mem _ hx)
  exact key vs fun _ h => h
def cmp (vs : List Nat) (b : D → Vw → Option Vw) (ft : Vw → Rv Bool) (fe : Vw → Rv D) (src : Vw → Rv (List D)) (η : Vw) : Rv (List D) := (src η).bind fun xs => if xs.length ≤ 16000000 then compL b ft fe xs (wipeV vs η) else .un
theorem compL_len {b : D → Vw → Option Vw} {ft : Vw → Rv Bool} {fe : Vw → Rv D} : ∀ {xs : List D} {η : Vw} {ys : List D}, compL b ft fe xs η = .ok ys → ys.length ≤ xs.length
  | [], _, _, h => by cases h; exact Nat.le_refl _
  | d :: r, η, ys, h => by
    unfold compL at h
    cases eb : b d η with
    | none => simp only [eb] at h; cases h
    | some η' =>
      simp only [eb] at h
      cases e1 : ft η' with
      | un => rw [e1] at h; cases h
      | xc x => rw [e1] at h; cases h
      | ok k =>
        rw [e1] at h
        cases k with
        | false => exact Nat.le_succ_of_le (compL_len (xs := r) h)
        | true =>
          cases e2 : fe η' with
          | un => simp only [Rv.nox_ok, Rv.bind_ok, if_true, e2] at h; cases h
          | xc x => simp only [Rv.nox_ok, Rv.bind_ok, if_true, e2] at h; cases h
          | ok y =>
            simp only [Rv.nox_ok, Rv.bind_ok, if_true, e2] at h
            cases e3 : compL b ft fe r η with
            | un => rw [e3] at h; cases h
            | xc z => rw [e3] at h; cases h
            | ok zs =>
              rw [e3] at h
              cases h
              exact Nat.succ_le_succ (compL_len (xs := r) e3)
/-- the whole of a comprehension, over whatever is walked: J's items are those of xs -/
structure SemC (S : Sx) (n : Nat) (elt tg iter : Expr) (ifs : List Expr) (scope : Scope) (f : Vw → Rv (List D)) : Prop where
  ex : ∃ (wi : TI) (g : TG) (tt : TT) (te : TE) (own : List (Str × Nat)), (∀ X, S.At X → PI X tg iter wi) ∧ (∀ X, S.At X → BlkOk X.N X.env.scope scope own) ∧ (∀ X, (S.blk scope).At X → PG X tg g) ∧ (∀ X, (S.blk scope).At X → PTs X ifs tt) ∧ (∀ X, (S.blk scope).At X → PE X elt te) ∧
    TellsFX S n (tLc wi g tt te (own.map (·.2))) f
end
end Bv

namespace Bv
open PySem PySem.Spec L2 PyProof.Rows
section
variable {S : Sx}
/-- a block's list is done -/
theorem fill_end {n : Nat} {σ : L2.St} {H1 H : Hp} {Z : Addr → Prop} {Dl : Addr} {fin : List D} {Q : VK} (hD : H1 Dl = none) (z : In Z H1) (h : PostFX S n σ Z H1 Q (.ok fin)) (w : Fills S n H1 Z Dl fin (.ok []) H) : Q (.ref Dl) H := by
  obtain ⟨acc, ds, more, U, a1, a2, aU, a3, a4, a5⟩ := w
  cases a4
  rw [List.append_nil] at a5
  subst a5
  have := h Dl acc (del H Dl) U a2 (fun a ha => (aU a ha).1) (TreeA.gr (fun a o q => ?_) (fun a ha => del_ne (aU a ha).2) a3) del_same
  · rw [← del_upd a1]
    exact this
  · obtain ⟨q1, q2⟩ := hid_some q
    have na : a ≠ Dl := fun e => q1 (.inl (.inr e))
    rw [hid_no fun y => q1 (y.imp .inl id), del_ne na]
    exact q2
theorem fill_start {n : Nat} {H1 : Hp} {Z : Addr → Prop} {Dl : Addr} {fin : List D} {r : Rv (List D)} (hD : H1 Dl = none) (h : r = .ok fin) : Fills S n H1 Z Dl fin r (upd H1 Dl (.lst [])) := by
  refine ⟨[], [], fin, [], upd_same, fun a o q => ?_, fun a h => (by cases h), .nil, h, rfl⟩
  have na : a ≠ Dl := ne_of_none q hD
  rw [del_ne na, upd_ne na]
  exact q
theorem Fills.ex {n : Nat} {H1 H : Hp} {Z : Addr → Prop} {Dl : Addr} {fin : List D} {r : Rv (List D)} (hD : H1 Dl = none) (w : Fills S n H1 Z Dl fin r H) : Gr H1 H := by
  obtain ⟨acc, ds, more, U, a1, a2, _⟩ := w
  intro a o q
  have := a2 a o q
  rw [del_ne (ne_of_none q hD)] at this
  exact this
def srcE (f : Vw → Rv D) (η : Vw) : Rv (List D) := (f η).bind fun d => match items d with | some xs => .ok xs | none => .un
/-- [elt for tg in iter if ..], iter a list or tuple -/
theorem sc_list {n : Nat} {elt tg iter : Expr} {ifs : List Expr} {scope : Scope} {b : D → Vw → Option Vw} {ft : Vw → Rv Bool} {fe : Vw → Rv D} {f : Vw → Rv D} (own : List (Str × Nat)) (vs : List Nat) (hi : SemE S iter f) (hb : blkC S.N S.sc scope own = true) (hg : SemTv (S.blk scope) tg vs b)
    (ht : SemP (S.blk scope) ifs ft) (he : SemX (S.blk scope) n elt fe) (hv : own.map (·.2) = vs := by rfl) : SemC S n elt tg iter ifs scope (cmp vs b ft fe (srcE f)) := by
  obtain ⟨ti, pi, qi⟩ := hi.ex
  obtain ⟨g, pg, qg⟩ := hg.ex
  obtain ⟨tt, pt, qt⟩ := ht.ex
  obtain ⟨te, pe, qe⟩ := he.ex
  refine ⟨⟨fun σ H R => iList S.K ti σ H R ∨ iTup S.K ti σ H R, g, tt, te, own, fun X hX => ?_, fun X hX => blkOk_by (by rw [hX.hN, hX.hsc]; exact hb), pg, pt, pe, hv.symm ▸ (fun η σ H Z Q z hη h => ?_)⟩⟩
  · rw [← hX.hK]
    exact PI.or (pi_list (pi X hX)) (pi_tup (pi X hX))
  · unfold cmp srcE at h
    cases ef : f η with
    | un => rw [ef] at h; exact False.elim h
    | xc x =>
      refine .inl (qi η σ H Z _ z hη ?_)
      rw [ef] at h ⊢
      exact h
    | ok d =>
      rw [ef] at h
      have core : ∀ (xs : List D) (H' : Hp), items d = some xs → Gr H H' → ∃ fin, fin.length ≤ 16000000 ∧ compL b ft fe xs (wipeV vs η) = .ok fin ∧ PostFX S n σ Z H' Q (.ok fin) := by
        intro xs H' ed e
        simp only [Rv.bind_ok, ed] at h
        split at h
        · rename_i hl
          cases ec : compL b ft fe xs (wipeV vs η) with
          | un => rw [ec] at h; exact False.elim h
          | xc x => exact absurd ec (compL_nox _ _ _)
          | ok fin =>
            rw [ec] at h
            exact ⟨fin, Nat.le_trans (compL_len ec) hl, rfl, h.gr e⟩
        · exact False.elim h
      cases d with
      | list ds =>
        refine .inl (qi η σ H Z _ z hη ?_)
        rw [ef]
        intro v H' e r
        obtain ⟨fin, hf, ec, hp⟩ := core ds H' rfl e
        cases r with
        | @lst a xs _ r1 r2 =>
          refine ⟨a, rfl, ⟨xs, ((Gr.hid_le _ _).rdl r1).sq⟩, fun Dl hD => ?_⟩
          refine lc_list (xs := xs) (fun i H2 => Fills S n H' Z Dl fin (compL b ft fe (ds.drop i) (wipeV vs η)) H2) (fill_start hD ec) (fun i H2 _ w => ((w.ex hD).rdl ((Gr.hid_le _ _).rdl r1)).sq) ?_ ?_
          · intro i x H2 hx w
            obtain ⟨d, hd, rd⟩ := RpA.got r2 hx
            have w : Fills S n H' Z Dl fin (compL b ft fe (ds.drop i) (wipeV vs η)) H2 := w
            rw [drop_cons hd] at w
            exact fill_turn (scope := scope) qg qt qe (z.gr e) (hη.gr (e.hid Z)) hD hf rd (wipe_wipe σ _) w fun H3 w3 => w3
          · intro H2 w
            have w : Fills S n H' Z Dl fin (compL b ft fe (ds.drop xs.length) (wipeV vs η)) H2 := w
            rw [RpA.length r2, List.drop_length] at w
            exact fill_end hD (z.gr e) hp w
      | tuple ds =>
        refine .inr (qi η σ H Z _ z hη ?_)
        rw [ef]
        intro v H' e r
        obtain ⟨fin, hf, ec, hp⟩ := core ds H' rfl e
        cases r with
        | @tup a xs _ r1 r2 =>
          refine ⟨a, rfl, ⟨xs, (Gr.hid_le _ _).sqT r1⟩, fun Dl hD => ?_⟩
          refine lc_tup (xs := xs) (fun i H2 => Fills S n H' Z Dl fin (compL b ft fe (ds.drop i) (wipeV vs η)) H2) (fill_start hD ec) (fun i H2 _ w => (w.ex hD).sqT ((Gr.hid_le _ _).sqT r1)) ?_ ?_
          · intro i x H2 hx w
            obtain ⟨d, hd, rd⟩ := RpA.got r2 hx
            have w : Fills S n H' Z Dl fin (compL b ft fe (ds.drop i) (wipeV vs η)) H2 := w
            rw [drop_cons hd] at w
            exact fill_turn (scope := scope) qg qt qe (z.gr e) (hη.gr (e.hid Z)) hD hf rd (wipe_wipe σ _) w fun H3 w3 => w3
          · intro H2 w
            have w : Fills S n H' Z Dl fin (compL b ft fe (ds.drop xs.length) (wipeV vs η)) H2 := w
            rw [RpA.length r2, List.drop_length] at w
            exact fill_end hD (z.gr e) hp w
      | _ => exact False.elim h
/-- over a range just named -/
theorem range_core {n : Nat} {scope : Scope} {b : D → Vw → Option Vw} {ft : Vw → Rv Bool} {fe : Vw → Rv D} {g : TG} {tt : TT} {te : TE} {vs : List Nat} {η : Vw} {σ : L2.St} {H : Hp} {Z : Addr → Prop} {Q : VK} {lo hi : Int}
    (qg : ∀ d v η η' σ H Hv Q, Gr Hv H → Vok S.c Hv η σ → Rp S.c Hv v d → b d η = some η' → (∀ σ', Vok S.c Hv η' σ' → L2.wipe σ' vs = L2.wipe σ vs → Q σ' H) → g v σ H Q)
    (qt : Tells (S.blk scope) RT tt ft) (qe : TellsX (S.blk scope) n te fe) (z : In Z H) (hη : Vok S.c (hid H Z) η σ)
    (h : PostFX S n σ Z H Q (if (rangeD lo hi).length ≤ 16000000 then compL b ft fe (rangeD lo hi) (wipeV vs η) else .un)) :
    ∀ Dl, H Dl = none → ∃ W : Nat → Nat → Hp → Prop, (∃ m, W 0 m (upd H Dl (.lst []))) ∧ ∀ i m H, W i m H →
      ((Itr lo (hi - lo).toNat).stop i H ∧ Q (.ref Dl) H) ∨ ((Itr lo (hi - lo).toNat).go i H ∧ ∃ Nx : Hp → Prop, (∀ H', Nx H' → ∃ m', m' < m ∧ W (i + 1) m' H') ∧ ∀ x H', (Itr lo (hi - lo).toNat).yld i H x H' → g x (L2.wipe σ vs) H' fun σ2 H2 => L2.wipe σ2 vs = L2.wipe σ vs ∧ tt σ2 H2 fun b H3 =>
        if b = true then te σ2 H3 fun y H4 => ∃ acc, H4 Dl = some (.lst acc) ∧ acc.length < sizeLine ∧ Nx (upd H4 Dl (.lst (acc ++ [y]))) else Nx H3) := by
  intro Dl hD
  split at h
  · rename_i hl
    cases ec : compL b ft fe (rangeD lo hi) (wipeV vs η) with
    | un => rw [ec] at h; exact False.elim h
    | xc x => exact absurd ec (compL_nox _ _ _)
    | ok fin =>
      rw [ec] at h
      have hf := Nat.le_trans (compL_len ec) hl
      refine lc_range (lo := lo) (n := (hi - lo).toNat) (fun i H2 => Fills S n H Z Dl fin (compL b ft fe ((rangeD lo hi).drop i) (wipeV vs η)) H2) (fill_start hD ec) ?_ ?_
      · intro i H2 hx w
        have w : Fills S n H Z Dl fin (compL b ft fe ((rangeD lo hi).drop i) (wipeV vs η)) H2 := w
        rw [drop_cons (rangeD_get hx)] at w
        exact fill_turn (scope := scope) qg qt qe z hη hD hf (.int _) (wipe_wipe σ _) w fun H3 w3 => w3
      · intro H2 w
        have w : Fills S n H Z Dl fin (compL b ft fe ((rangeD lo hi).drop (hi - lo).toNat) (wipeV vs η)) H2 := w
        rw [← rangeD_len, List.drop_length] at w
        exact fill_end hD z h w
  · exact False.elim h
def srcR (rg : List D → Rv (List D)) (f : Vw → Rv (List D)) (η : Vw) : Rv (List D) := (f η).bind rg
theorem sc_range1 {n : Nat} {elt tg a : Expr} {ifs : List Expr} {scope : Scope} {b : D → Vw → Option Vw} {ft : Vw → Rv Bool} {fe : Vw → Rv D} {f : Vw → Rv (List D)} {p pos : Pos} (own : List (Str × Nat)) (vs : List Nat) (hm : S.mg "range" = none) (hi : SemA S [a] f) (hb : blkC S.N S.sc scope own = true) (hg : SemTv (S.blk scope) tg vs b)
    (ht : SemP (S.blk scope) ifs ft) (he : SemX (S.blk scope) n elt fe) (hv : own.map (·.2) = vs := by rfl) (hgl : S.sc.names.lookup ("range" : Str) = some .globalImplicit := by rfl) (hst : ∀ env, starEach [a] env = [(false, eval a env)] := by intro _; rfl) :
    SemC S n elt tg (.Call (.Name "range" p) [a] [] pos) ifs scope (cmp vs b ft fe (srcR rng1 f)) := by
  obtain ⟨ti, pi, qi⟩ := hi.ex
  obtain ⟨g, pg, qg⟩ := hg.ex
  obtain ⟨tt, pt, qt⟩ := ht.ex
  obtain ⟨te, pe, qe⟩ := he.ex
  refine ⟨⟨iRng1 ti, g, tt, te, own, fun X hX => pi_range1 (by show X.env.scope.names.lookup ("range" : Str) = _; rw [hX.hsc]; exact hgl) (by rw [hX.hmg]; exact hm) (pi X hX) (hst _), fun X hX => blkOk_by (by rw [hX.hN, hX.hsc]; exact hb), pg, pt, pe, hv.symm ▸ (fun η σ H Z Q z hη h => ?_)⟩⟩
  unfold cmp srcR at h
  refine qi η σ H Z _ z hη ?_
  cases ef : f η with
  | un => rw [ef] at h; exact False.elim h
  | xc x => rw [ef] at h; exact h
  | ok ds =>
    rw [ef] at h
    intro vs H' e r
    cases r with
    | nil => exact False.elim h
    | cons r1 r2 =>
      cases r2 with
      | cons _ _ => cases r1 <;> exact False.elim h
      | nil =>
        cases r1 with
        | int n =>
          simp only [Rv.bind_ok, rng1_i] at h
          by_cases hn : rngOk n = true
          · rw [if_pos hn] at h
            have hn := of_decide_eq_true hn
            refine ⟨n, rfl, hn.1, hn.2, ?_⟩
            have := range_core (S := S) (scope := scope) (lo := 0) (hi := n) qg qt qe (z.gr e) (hη.gr (e.hid Z)) (Q := Q) (h.gr e)
            rw [Int.sub_zero] at this
            exact this
          · rw [if_neg hn] at h
            exact False.elim h
        | _ => exact False.elim h
theorem sc_range2 {n : Nat} {elt tg a a2 : Expr} {ifs : List Expr} {scope : Scope} {b : D → Vw → Option Vw} {ft : Vw → Rv Bool} {fe : Vw → Rv D} {f : Vw → Rv (List D)} {p pos : Pos} (own : List (Str × Nat)) (vs : List Nat) (hm : S.mg "range" = none) (hi : SemA S [a, a2] f) (hb : blkC S.N S.sc scope own = true) (hg : SemTv (S.blk scope) tg vs b)
    (ht : SemP (S.blk scope) ifs ft) (he : SemX (S.blk scope) n elt fe) (hv : own.map (·.2) = vs := by rfl) (hgl : S.sc.names.lookup ("range" : Str) = some .globalImplicit := by rfl) (hst : ∀ env, starEach [a, a2] env = [(false, eval a env), (false, eval a2 env)] := by intro _; rfl) (hst2 : ∀ env, starEach [a2] env = [(false, eval a2 env)] := by intro _; rfl) :
    SemC S n elt tg (.Call (.Name "range" p) [a, a2] [] pos) ifs scope (cmp vs b ft fe (srcR rng2 f)) := by
  obtain ⟨ti, pi, qi⟩ := hi.ex
  obtain ⟨g, pg, qg⟩ := hg.ex
  obtain ⟨tt, pt, qt⟩ := ht.ex
  obtain ⟨te, pe, qe⟩ := he.ex
  refine ⟨⟨iRng2 ti, g, tt, te, own, fun X hX => pi_range2 (by show X.env.scope.names.lookup ("range" : Str) = _; rw [hX.hsc]; exact hgl) (by rw [hX.hmg]; exact hm) (pi X hX) (hst _) (hst2 _), fun X hX => blkOk_by (by rw [hX.hN, hX.hsc]; exact hb), pg, pt, pe, hv.symm ▸ (fun η σ H Z Q z hη h => ?_)⟩⟩
  unfold cmp srcR at h
  refine qi η σ H Z _ z hη ?_
  cases ef : f η with
  | un => rw [ef] at h; exact False.elim h
  | xc x => rw [ef] at h; exact h
  | ok ds =>
    rw [ef] at h
    intro vs H' e r
    cases r with
    | nil => exact False.elim h
    | cons r1 r2 =>
      cases r2 with
      | nil => cases r1 <;> exact False.elim h
      | cons r2 r3 =>
        cases r3 with
        | cons _ _ => cases r1 <;> cases r2 <;> exact False.elim h
        | nil =>
          cases r1 with
          | int a =>
            cases r2 with
            | int n =>
              simp only [Rv.bind_ok, rng2_i] at h
              by_cases hn : rngOk a = true ∧ rngOk n = true
              · rw [if_pos hn] at h
                have h1 := of_decide_eq_true hn.1
                have h2 := of_decide_eq_true hn.2
                exact ⟨a, n, rfl, ⟨h1.1, h1.2, h2.1, h2.2⟩, range_core (S := S) (scope := scope) qg qt qe (z.gr e) (hη.gr (e.hid Z)) (Q := Q) (h.gr e)⟩
              · rw [if_neg hn] at h
                exact False.elim h
            | _ => exact False.elim h
          | _ => exact False.elim h
/-- as a value -/
theorem TellsFX.f {t : TE} {f : Vw → Rv (List D)} (h : TellsFX S 0 t f) : TellsF S t f := by
  intro η σ H Z Q z hη hq
  refine h η σ H Z Q z hη ?_
  cases e : f η with
  | un => rw [e] at hq; exact hq
  | xc x => rw [e] at hq; exact hq
  | ok ds =>
    rw [e] at hq
    exact fun p vs H' U e1 hU t hp => hq (p, vs) H' e1 (TreeA.rp ((Gr.refl H').hid2 fun a h => .inl h) (fun a ha => hid_no fun q => z a q (hU a ha)) t) hp
theorem SemC.run {n : Nat} {elt tg iter : Expr} {ifs : List Expr} {scope : Scope} {pos : Pos} {f : Vw → Rv (List D)} (h : SemC S n elt tg iter ifs scope f) (hs : ∀ env x, foldedSetIterable iter env x = pure x := by intro _ _; rfl) :
    ∃ t, (∀ X, S.At X → PE X (.ListComp elt [⟨tg, iter, ifs, 0⟩] scope pos) t) ∧ TellsFX S n t f := by
  obtain ⟨wi, g, tt, te, own, h1, h2, h3, h4, h5, h6⟩ := h.ex
  exact ⟨_, fun X hX => pe_lc hX.calm hX.nd (h1 X hX) (h2 X hX) (fun s H C cl fp => h3 _ (hX.blk scope s H C cl fp)) (fun s H C cl fp => h4 _ (hX.blk scope s H C cl fp)) (fun s H C cl fp => h5 _ (hX.blk scope s H C cl fp)) (hs _), h6⟩
theorem SemC.f {elt tg iter : Expr} {ifs : List Expr} {scope : Scope} {pos : Pos} {f : Vw → Rv (List D)} (h : SemC S 0 elt tg iter ifs scope f) (hs : ∀ env x, foldedSetIterable iter env x = pure x := by intro _ _; rfl) : SemF S (.ListComp elt [⟨tg, iter, ifs, 0⟩] scope pos) f :=
  let ⟨t, p, q⟩ := h.run hs; ⟨⟨t, p, q.f⟩⟩
theorem SemC.x {n : Nat} {elt tg iter : Expr} {ifs : List Expr} {scope : Scope} {pos : Pos} {f : Vw → Rv (List D)} (h : SemC S n elt tg iter ifs scope f) (hs : ∀ env x, foldedSetIterable iter env x = pure x := by intro _ _; rfl) : SemX S (n + 1) (.ListComp elt [⟨tg, iter, ifs, 0⟩] scope pos) (lstD f) := by
  obtain ⟨t, p, q⟩ := h.run (pos := pos) hs
  refine ⟨⟨t, p, fun η σ H Z Q z hη h => q η σ H Z Q z hη ?_⟩⟩
  unfold lstD at h
  cases e : f η with
  | un => rw [e] at h; exact h
  | xc x => rw [e] at h; exact h
  | ok ds =>
    rw [e] at h
    exact fun p vs H' U e1 hU t hp => PostX.newL h e1 hU t hp
/-- x = [..] on one row -/
def asgC (i n : Nat) (M : List Nat) (f : Vw → Rv (List D)) (ρ : Env') : Res := (f (vw M ρ)).st fun ds => if i < ρ.length then .nx (if immA ds = true then ρ.set i (.ow (n + 1) (.list ds)) else (frz M ρ).set i (.ow (n + 1) (.list ds))) else .un
theorem ss_setC {i n : Nat} {y : Str} {py : Pos} {elt tg iter : Expr} {ifs : List Expr} {scope : Scope} {pos spos : Pos} {f : Vw → Rv (List D)} (M : List Nat) (h : SemC S n elt tg iter ifs scope f) (hy : S.N[i]? = some y := by rfl) (hyl : S.sc.names.lookup y = some .local := by rfl) (hkd : S.sc.kind = .function := by rfl)
    (hl : (py.line == pos.line) = true := by rfl) (ha : (scope.names.any fun (n, k) => n == y && (k == .local || k == .cell)) = false := by decide +kernel) (hs : ∀ env x, foldedSetIterable iter env x = pure x := by intro _ _; rfl) :
    SemS S (.Assign [.Name y py] (.ListComp elt [⟨tg, iter, ifs, 0⟩] scope pos) spos) (asgC i n M f) := by
  obtain ⟨wi, g, tt, te, own, h1, h2, h3, h4, h5, h6⟩ := h.ex
  refine ⟨⟨_, fun X hX => ps_setLc (i := i) hX.calm hX.nd (by rw [hX.hN]; exact hy) (by rw [hX.hsc]; exact hyl) (sw_true (by rw [hX.hsc]; exact hkd) (by rw [hX.hsc]; exact hyl) hl ha) (h1 X hX) (h2 X hX) (fun s H C cl fp => h3 _ (hX.blk scope s H C cl fp)) (fun s H C cl fp => h4 _ (hX.blk scope s H C cl fp)) (fun s H C cl fp => h5 _ (hX.blk scope s H C cl fp)) (hs _), fun ρ F H0 Z σ H Dn ⟨o, k⟩ h => ?_⟩⟩
  refine h6 (vw M ρ) σ H (hz Z ρ o M) _ k.hin k.view ?_
  unfold asgC at h
  cases ef : f (vw M ρ) with
  | un => rw [ef] at h; exact h
  | xc x => rw [ef] at h; exact fun cls dx H' e q => h cls dx σ H' (k.gr.trans e) (k.out e) (q.gr ((Gr.refl H').hid2 fun a z => .inl z))
  | ok ds =>
    rw [ef] at h
    intro p vs H' U e1 hU t hp
    simp only [Rv.st_ok] at h
    split at h
    · rename_i hl
      have np : ∀ a ∈ U, a ≠ p := fun a ha q => by
        obtain ⟨xs, w, _⟩ := TreeA.lists t a ha
        rw [q, hp] at w
        cases w
      by_cases hm : immA ds = true
      · rw [if_pos hm] at h
        -- what can't change needs no tree
        have r := TreeA.rp (Hv' := hid H' (hz Z ρ o M)) ((Gr.refl H').hid2 fun a h => .inl h) (fun a ha => hid_no fun q => k.hin a q (hU a ha)) t
        have k' := k.grow e1
        have r0 := k'.immA hm r
        refine h _ _ ⟨_, k'.layT (U := [p]) (Gr.new hp) (fun a ha => by rw [List.mem_singleton.mp ha]; exact hp) hl fun Hv eh => ?_⟩
        have e2 : Gr (hid H' (hz Z ρ o [])) Hv := Gr.trans (fun a u h => by
          obtain ⟨h1, h2⟩ := hid_some h
          have na : a ≠ p := ne_of_none h2 hp
          rw [hid_no (fun z => z.elim h1 fun z => na (List.mem_singleton.mp z)), upd_ne na]
          exact h2) eh
        exact .lst upd_same (TreeA.imms (Hv := Hv) (H' := H') hm (RpA.gr e2 r0)) (by simp)
      · rw [if_neg hm] at h
        refine h _ _ ⟨_, (k.freeze M).layT (U := p :: U) (e1.trans (Gr.new hp)) (fun a ha => (List.mem_cons.mp ha).elim (fun q => by rw [q]; exact e1.free hp) (hU a)) (by rw [frz_length]; exact hl) fun Hv eh => ?_⟩
        refine .lst upd_same (TreeA.gr (Gr.trans (fun a u q => ?_) eh) (fun a ha => upd_ne (np a ha)) t) fun q => np p q rfl
        obtain ⟨q1, q2⟩ := hid_some q
        have na : a ≠ p := ne_of_none q2 hp
        rw [hid_no (fun y => ?_), upd_ne na]
        · exact q2
        rcases y with y | y
        · exact q1 (.inl ((hz_frz a).mp y))
        · exact (List.mem_cons.mp y).elim na fun y => q1 (.inr y)
    · exact False.elim h
end
end Bv

set_option maxHeartbeats 4000000
namespace Bv
open PySem PySem.Spec L2 PyProof.Rows
open PySem.AutoSeq1 (wpAny_loadPart')
open PySem.MeetsSeq PySem.MeetsSeq2 PySem.MeetsSeq3
/-! ### * -/
theorem tup_mulS (l : Addr) (items : Array Value) (n : Nat) (dd : Option Addr) (sl : Array (Option Value)) (x : Int) (u : Tok) (c0 : (decide (x < -(2 ^ 63)) || decide (x ≥ 2 ^ 63)) = false) (c1 : (items.isEmpty || x == 1) = true) :
    Meets (Builtin.«tuple.__mul__» ⟨[.ref l, .int x u], []⟩) (fun _ R s => s.heap.get? l = some { cls := .type "tuple", dict := dd, data := .seq items n, slots := sl } ∧ R (.ok (.ret (Value.ref l))) s) :=
  .of_wp fun prog w A R s h => by
    obtain ⟨hp, g, d, tk, os⟩ := s
    obtain ⟨hl, h⟩ := h
    have f1 := AutoSeq1.idx_int
    wp_walk using wpAny_loadPart' hl
    repeat (first
      | (refine wpAny_ite_false (decide_eq_false (by rw [c0]; exact Bool.false_ne_true)) ?_; wp_walk using wpAny_loadPart' hl)
      | (refine wpAny_ite_true (decide_eq_true c1) ?_; wp_walk using wpAny_loadPart' hl))
    exact ⟨_, rfl, h⟩
theorem tup_mul0 (l : Addr) (items : Array Value) (n : Nat) (dd : Option Addr) (sl : Array (Option Value)) (x : Int) (u : Tok) (c0 : (decide (x < -(2 ^ 63)) || decide (x ≥ 2 ^ 63)) = false) (c1 : (items.isEmpty || x == 1) = false) (c2 : (decide (x ≤ 0) || items.isEmpty) = true) :
    Meets (Builtin.«tuple.__mul__» ⟨[.ref l, .int x u], []⟩) (fun _ R s => s.heap.get? l = some { cls := .type "tuple", dict := dd, data := .seq items n, slots := sl } ∧ R (.ok (.ret (Value.ref s.heap.objs.size))) { s with heap := s.heap.push { cls := Value.type "tuple", data := Data.seq #[] }, toks := s.toks }) :=
  .of_wp fun prog w A R s h => by
    obtain ⟨hp, g, d, tk, os⟩ := s
    obtain ⟨hl, h⟩ := h
    have f1 := AutoSeq1.idx_int
    wp_walk using wpAny_loadPart' hl
    repeat (first
      | (refine wpAny_ite_false (decide_eq_false (by rw [c0]; exact Bool.false_ne_true)) ?_; wp_walk using wpAny_loadPart' hl)
      | (refine wpAny_ite_false (decide_eq_false (by rw [c1]; exact Bool.false_ne_true)) ?_; wp_walk using wpAny_loadPart' hl)
      | (refine wpAny_ite_true (decide_eq_true c2) ?_; wp_walk using wpAny_loadPart' hl))
    exact ⟨_, rfl, h⟩

section
variable {X : Cx} {S : Sx}
def rRepA (K : PySem.W.Frag) : R2 := fun x y H Q => ∃ l k xs, x = .ref l ∧ y = .int k ∧ SqT K H l xs ∧ -1000 ≤ k ∧ k ≤ 1000 ∧ xs.length ≤ 1000 ∧ ((xs = [] ∨ k = 1) → Q (.ref l) H) ∧
  (xs ≠ [] → k ≠ 1 → ∀ p, H p = none → Q (.ref p) (upd H p (.tup (List.replicate k.toNat xs).flatten)))
theorem op_repA : OpR X (binaryOp .Mult) (rRepA X.K) := by
  intro pins s σ H x y v u Q I rx ry h
  obtain ⟨l, k, xs, rfl, rfl, hT, h0, h1, hz, q1, q2⟩ := h
  by_cases hbig : xs ≠ [] ∧ 2 ≤ k
  · exact op_repT pins s σ H _ _ v u Q I rx ry ⟨l, k, xs, rfl, rfl, hT, hbig.1, hbig.2, h1, hz, q2 hbig.1 (by omega)⟩
  · cases rx
    obtain ⟨t, rfl⟩ := ry
    obtain ⟨its, r, ⟨⟨cls, dd, data, sl⟩, ho, hc, n, hd⟩, hs⟩ := I.tuple hT
    simp only at hc hd
    subst hc hd
    have c0 : (decide (k < -(2 ^ 63)) || decide (k ≥ 2 ^ 63)) = false := by
      rw [Bool.or_eq_false_iff]
      exact ⟨decide_eq_false (by omega), decide_eq_false (by omega)⟩
    have emp : its.toArray.isEmpty = xs.isEmpty := by cases r <;> rfl
    by_cases hsame : xs = [] ∨ k = 1
    · have c1 : (its.toArray.isEmpty || k == 1) = true := by
        rw [emp, Bool.or_eq_true]
        exact hsame.imp (fun z => by rw [z]; rfl) fun z => by rw [z]; rfl
      exact wpAny_binaryOp_repeat_ref (T := "tuple") (U := "int") (by decide) ⟨_, ho, rfl⟩ (fun s' => typeIs_int s' k t) noFill_tuple_mul F.fills_int_mul F.slot_int_rmul repeat_tuple F.slot_int_index.lookup
        (call_meets F.slot_int_rmul (typeIs_int s k t) F.entry_int_rmul (F.args_int_rmul_2 _ _) (int_rmul_tuple k t l its.toArray n dd sl)
          ⟨ho, rfl, ⟨_, ho, rfl⟩, call_meets F.slot_tuple_mul ⟨_, ho, rfl⟩ F.entry_tuple_mul (F.args_tuple_mul_2 _ _) (tup_mulS l its.toArray n dd sl k t c0 c1) ⟨ho, ⟨.ref l, H, I, rfl, q1 hsame⟩⟩⟩)
    · rw [not_or] at hsame
      have hk : k ≤ 0 := by
        have : ¬ 2 ≤ k := fun z => hbig ⟨hsame.1, z⟩
        omega
      have e1 : xs.isEmpty = false := by cases xs with | nil => exact absurd rfl hsame.1 | cons a b => rfl
      have c1 : (its.toArray.isEmpty || k == 1) = false := by
        rw [emp, e1, Bool.false_or]
        exact beq_eq_false_iff_ne.mpr hsame.2
      have c2 : (decide (k ≤ 0) || its.toArray.isEmpty) = true := by
        rw [decide_eq_true hk]; rfl
      have e2 : (List.replicate k.toNat xs).flatten = [] := by
        rw [show k.toNat = 0 by omega]; rfl
      refine wpAny_binaryOp_repeat_ref (T := "tuple") (U := "int") (by decide) ⟨_, ho, rfl⟩ (fun s' => typeIs_int s' k t) noFill_tuple_mul F.fills_int_mul F.slot_int_rmul repeat_tuple F.slot_int_index.lookup
        (call_meets F.slot_int_rmul (typeIs_int s k t) F.entry_int_rmul (F.args_int_rmul_2 _ _) (int_rmul_tuple k t l its.toArray n dd sl)
          ⟨ho, rfl, ⟨_, ho, rfl⟩, call_meets F.slot_tuple_mul ⟨_, ho, rfl⟩ F.entry_tuple_mul (F.args_tuple_mul_2 _ _) (tup_mul0 l its.toArray n dd sl k t c0 c1 c2) ⟨ho, ?_⟩⟩)
      have q3 := q2 hsame.1 hsame.2 s.heap.objs.size (I.hok.fresh (Nat.le_refl _))
      rw [e2] at q3
      refine ⟨.ref s.heap.objs.size, _, I.laid (t' := s.toks) (o := .tup []) (fun b ob q => Heap.get?_push_of_some _ q) (Nat.le_refl _) ?_, rfl, q3⟩
      exact ⟨Nat.zero_le _, [], .nil, IsTup.new _ _⟩
/-- a list times a whole number, however it is read -/
def rRepR (K : PySem.W.Frag) : R2 := fun x y H Q => ∃ l k xs, x = .ref l ∧ y = .int k ∧ RdL K H l xs ∧ -(2 ^ 63) ≤ k ∧ k < 2 ^ 63 ∧ xs.length * k.toNat ≤ sizeLine ∧ ∀ p, H p = none → Q (.ref p) (upd H p (.lst (List.replicate k.toNat xs).flatten))
theorem op_repR : OpR X (binaryOp .Mult) (rRepR X.K) := by
  intro pins s σ H x y v u Q I rx ry h
  obtain ⟨l, k, xs, rfl, rfl, hH, h1, h2, hz, q⟩ := h
  cases rx
  obtain ⟨t, rfl⟩ := ry
  obtain ⟨its, n, r, e, hsz⟩ := RdL.lst_at I hH
  have hlen : its.toArray.size * k.toNat ≤ sizeLine := by rw [List.size_toArray, ← r.length]; exact hz
  have hcap : ¬ its.toArray.size * k.toNat > (2 ^ 63 - 1) / 8 := by
    have hline : (sizeLine : Nat) ≤ (2 ^ 63 - 1) / 8 := by decide
    omega
  have fold : ∀ m : Nat, List.foldl (fun x1 x2 => x1 ++ x2) #[] (List.replicate m its.toArray) = (List.replicate m its).flatten.toArray := fun m => by
    have w := foldl_rep its m []
    rwa [List.nil_append] at w
  have made : List.foldl (fun x1 x2 => x1 ++ x2) #[] (List.replicate (if its.toArray.isEmpty = true then 0 else k.toNat) its.toArray) = (List.replicate k.toNat its).flatten.toArray := by
    rw [fold]
    cases its with
    | nil => simp
    | cons a b => rw [if_neg (by simp)]
  refine wpAny_binaryOp_repeat_ref (T := "list") (U := "int") (by decide) ⟨_, e, rfl⟩ (fun s' => typeIs_int s' k t) noFill_list_mul F.fills_int_mul F.slot_int_rmul repeat_list F.slot_int_index.lookup
    (call_meets F.slot_int_rmul (typeIs_int s k t) F.entry_int_rmul (F.args_int_rmul_2 _ _) (int___rmul___int_list k t l its.toArray n)
      ⟨e, rfl, ⟨_, e, rfl⟩, call_meets F.slot_list_mul ⟨_, e, rfl⟩ F.entry_list_mul (F.args_list_mul_2 _ _)
        (AutoListH.list___mul___list_int_3 l its.toArray n k t (by rw [fitsIndex_both h1 h2]; exact Bool.false_ne_true) hcap (by rw [notLongL hlen]; exact Bool.false_ne_true)) ⟨e, ?_⟩⟩)
  rw [made]
  have fl : (List.replicate k.toNat xs).flatten.length ≤ sizeLine := by rw [PyProof.Rows.lm_len_rep_flat, Nat.mul_comm]; exact hz
  exact ⟨.ref _, _, I.laid (t' := s.toks) (o := .lst (List.replicate k.toNat xs).flatten) (fun b ob w => Heap.get?_push_of_some _ w) (Nat.le_refl _) ⟨fl, _, 0, r.rep k.toNat, Heap.get?_push_size _ rfl⟩, rfl, q _ (I.hok.fresh (Nat.le_refl _))⟩
def mulOk (i j : Int) : Bool := decide ((-(2 ^ 64) < i ∧ i < 2 ^ 64) ∨ (-(2 ^ 64) < j ∧ j < 2 ^ 64))
def dMul : D → D → Rv D
  | .int i, .int j => if mulOk i j = true then .ok (.int (i * j)) else .un
  | .tuple xs, .int k => if -1000 ≤ k ∧ k ≤ 1000 ∧ xs.length ≤ 1000 then .ok (.tuple (List.replicate k.toNat xs).flatten) else .un
  | .list xs, .int k => if -1000 ≤ k ∧ k ≤ 1000 ∧ xs.length ≤ 1000 then .ok (.list (List.replicate k.toNat xs).flatten) else .un
  | _, _ => .un
theorem dMul_ii (i j : Int) : dMul (.int i) (.int j) = if mulOk i j = true then .ok (.int (i * j)) else .un := rfl
theorem dMul_t (xs : List D) (k : Int) : dMul (.tuple xs) (.int k) = if -1000 ≤ k ∧ k ≤ 1000 ∧ xs.length ≤ 1000 then .ok (.tuple (List.replicate k.toNat xs).flatten) else .un := rfl
theorem dMul_l (xs : List D) (k : Int) : dMul (.list xs) (.int k) = if -1000 ≤ k ∧ k ≤ 1000 ∧ xs.length ≤ 1000 then .ok (.list (List.replicate k.toNat xs).flatten) else .un := rfl
def rMulAll (K : PySem.W.Frag) : R2 := fun x y H Q => rI CMul (fun i j => .int (i * j)) x y H Q ∨ rRepA K x y H Q ∨ rRepR K x y H Q
theorem op_mulAll : OpR X (binaryOp .Mult) (rMulAll X.K) := op_mul.or (op_repA.or op_repR)
theorem o2_mul : Op2 S (rMulAll S.K) dMul := by
  intro x y a b H Z Q σ z ra rb h
  cases rb with
  | int k =>
    cases ra with
    | int i =>
      rw [dMul_ii] at h
      split at h
      · rename_i hc
        exact .inl ⟨i, k, rfl, rfl, (of_decide_eq_true hc : (-(2 ^ 64) < i ∧ i < 2 ^ 64) ∨ (-(2 ^ 64) < k ∧ k < 2 ^ 64)), Post.ok (R := RE S) h (.int _)⟩
      · exact False.elim h
    | tup h1 r1 =>
      rw [dMul_t] at h
      split at h
      · rename_i hc
        have hl := RpA.length r1
        refine .inr (.inl ⟨_, k, _, rfl, rfl, (Gr.hid_le H Z).sqT h1, hc.1, hc.2.1, by omega, fun hs => ?_, fun _ _ p hp => Post.newT z h (RpA.rep r1 _) hp⟩)
        refine Post.ok (R := RE S) h ?_
        have e : ∀ ds : List D, (ds = [] ∨ k = 1) → (List.replicate k.toNat ds).flatten = ds := by
          intro ds hh
          rcases hh with rfl | rfl
          · simp
          · simp
        rw [e _ (hs.imp (fun q => by subst q; exact List.eq_nil_of_length_eq_zero (by simpa using hl.symm)) id)]
        exact .tup h1 r1
      · exact False.elim h
    | lst h1 r1 =>
      rw [dMul_l] at h
      split at h
      · rename_i hc
        have hl := RpA.length r1
        refine .inr (.inr ⟨_, k, _, rfl, rfl, (Gr.hid_le H Z).rdl h1, by omega, by omega, ?_, fun p hp => Post.newL z h (RpA.rep r1 _) hp⟩)
        rw [hl]
        exact line_ge (Nat.le_trans (Nat.mul_le_mul hc.2.2 (show k.toNat ≤ 1000 by omega)) (by decide))
      · exact False.elim h
    | _ => exact False.elim h
  | _ => cases a <;> exact False.elim h
theorem se_mul {a b : Expr} {fa fb : Vw → Rv D} {pos : Pos} (ha : SemE S a fa) (hb : SemE S b fb) : SemE S (.BinOp a .Mult b pos) (bi2 dMul fa fb) := se_op (fun X hX => hX.hK ▸ op_mulAll) o2_mul ha hb

/-! ### max, min of two (no error is handled around) -/
theorem se_max {e e2 : Expr} {fa : Vw → Rv (List D)} {p pos : Pos} (hm : S.mg "max" = none) (ha : SemA S [e, e2] fa) (hg : S.sc.names.lookup ("max" : Str) = some .globalImplicit := by rfl) (he : ∀ env, starEach [e, e2] env = (false, eval e env) :: starEach [e2] env := by intro _; rfl)
    (hpl : ∀ env, (backTo pos (starEach [e2] env)).any (·.1) = false := by intro _; rfl) : SemE S (.Call (.Name "max" p) [e, e2] [] pos) (cal dMax fa) :=
  se_callB (fun X hX => call_max2 hX.calm) on_max hm (by decide +kernel) ha hg (by decide) (by decide) he hpl
theorem se_min {e e2 : Expr} {fa : Vw → Rv (List D)} {p pos : Pos} (hm : S.mg "min" = none) (ha : SemA S [e, e2] fa) (hg : S.sc.names.lookup ("min" : Str) = some .globalImplicit := by rfl) (he : ∀ env, starEach [e, e2] env = (false, eval e env) :: starEach [e2] env := by intro _; rfl)
    (hpl : ∀ env, (backTo pos (starEach [e2] env)).any (·.1) = false := by intro _; rfl) : SemE S (.Call (.Name "min" p) [e, e2] [] pos) (cal dMin fa) :=
  se_callB (fun X hX => call_min2 hX.calm) on_min hm (by decide +kernel) ha hg (by decide) (by decide) he hpl

/-! ### isinstance(x, T), T a built-in class by its name -/
def tyD : D → String
  | .none => "NoneType"
  | .bool _ => "bool"
  | .int _ => "int"
  | .str _ => "str"
  | .list _ => "list"
  | .tuple _ => "tuple"
  | .dict _ => "dict"
def isiD (T : String) (d : D) : Rv D := match d with
  | .dict _ => .un
  | d => match kitB (tyD d) T with | some b => .ok (.bool b) | none => .un
def isi (T : String) (f : Vw → Rv D) (η : Vw) : Rv D := (f η).bind (isiD T)
theorem Rp.tyX {c : Cz} {H : Hp} {v : V} {d : D} (r : Rp c H v d) (hd : ∀ ds, d ≠ .dict ds) : TyX c.K H v (.type (tyD d)) := by
  cases r with
  | non => exact .base .non
  | bl b => exact .base (.bl b)
  | int i => exact .base (.int i)
  | str i => exact .base (.str i)
  | lst h1 h2 =>
    rcases h1 with (h1 | ⟨o, h1⟩) | ⟨its, n, h1, _, _⟩
    · exact .base (.lst h1)
    · exact .base (.frz h1)
    · exact .kList h1 rfl
  | tup h1 h2 =>
    rcases h1 with (h1 | ⟨o, h1⟩) | ⟨o, its, n, h1, h2, _⟩
    · exact .base (.tup h1)
    · exact .fTuple h1
    · exact .kTuple h1 h2
  | dctK h1 h2 => exact absurd rfl (hd _)
  | dctN h1 h2 h3 => exact absurd rfl (hd _)
  | exc0 h1 h2 => exact absurd rfl (hd _)
  | exc1 h1 h2 h3 h4 => exact absurd rfl (hd _)
theorem se_isi {T : String} {x : Str} {e : Expr} {f : Vw → Rv D} {p1 p2 pos : Pos} (hm : S.mg "isinstance" = none) (hT : S.mg x = none) (hv : bootBuiltins x = some (.type T)) (ha : SemE S e f) (hx : x ≠ "__name__" := by decide) (hg : S.sc.names.lookup ("isinstance" : Str) = some .globalImplicit := by rfl)
    (hgx : S.sc.names.lookup x = some .globalImplicit := by rfl) (hxd : (x == ("__debug__" : Str)) = false := by decide) (hs : ∀ env, starEach [e, .Name x p2] env = (false, eval e env) :: starEach [.Name x p2] env := by intro _; rfl) (hs2 : ∀ env, starEach [.Name x p2] env = (false, eval (.Name x p2) env) :: starEach [] env := by intro _; rfl)
    (hpl : ∀ env, (backTo pos (starEach [.Name x p2] env)).any (·.1) = false := by intro _; rfl) : SemE S (.Call (.Name "isinstance" p1) [e, .Name x p2] [] pos) (isi T f) := by
  obtain ⟨t, pa, qa⟩ := ha.ex
  refine ⟨⟨tCB (rIsi S.K) (tCons t (tCons (tC (.ty T)) tNil)), fun X hX => ?_, fun η σ H Z Q z hη h => ?_⟩⟩
  · have hn : PE X (.Name x p2) (tC (.ty T)) := pe_bltn (by show X.env.scope.names.lookup x = _; rw [hX.hsc]; exact hgx) (by rw [hX.hmg]; exact hT) hv rfl hx hxd
    rw [← hX.hK]
    exact pe_callB call_isi (by show X.env.scope.names.lookup ("isinstance" : Str) = _; rw [hX.hsc]; exact hg) (by rw [hX.hmg]; exact hm) (by decide +kernel) (pa_cons (pa X hX) (pa_cons hn pa_nil (hs2 _)) (hs _)) (by decide) (by decide) (hs _) (hpl _)
  · refine qa η σ H Z _ z hη (Post.bind h fun d v H1 _ e1 r1 h1 => ?_)
    have hd : ∀ ds, d ≠ .dict ds := fun ds q => by subst q; exact False.elim h1
    have h2 : Post S (RE S) σ Z H1 Q (match kitB (tyD d) T with | some b => .ok (.bool b) | none => .un) := by
      cases d with
      | dict ds => exact absurd rfl (hd ds)
      | _ => exact h1
    cases ek : kitB (tyD d) T with
    | none => rw [ek] at h2; exact False.elim h2
    | some b =>
      rw [ek] at h2
      exact ⟨v, .ty T, .type (tyD d), .type T, b, rfl, .ty T, Rp.tyX (r1.gr (Gr.hid_le H1 Z)) hd, kit_ty ek, Post.ok (R := RE S) h2 (.bl b)⟩
end
end Bv

namespace Bv
open PySem PySem.Spec L2 PyProof.Rows

/-! ### enumerate over a list, a tuple -/
theorem meets_enum1 {v : Value} {o : Obj} {H : Heap → Prop} (B : Begins v o H) :
    Meets (Builtin.«enumerate.__new__» ⟨[.type "enumerate", v], []⟩) (fun _ R s => H s.heap ∧
      R (.ok (.ret (.ref (s.heap.push o).objs.size))) { s with heap := (s.heap.push o).push { cls := .type "enumerate", data := .fields #[.none, .bool false, .ref s.heap.objs.size, rawInt 0, .none, .none] } }) :=
  .of_wp fun prog w A R s h => by
    obtain ⟨hp, g, d, tk, os⟩ := s; obtain ⟨h1, h⟩ := h
    have hsub := sub_enumerate
    have q1 : ∀ {A' : Around} {E : Value → Shared → Prop} {Q : Value → Shared → Prop}, Q (.ref hp.objs.size) ⟨hp.push o, g, d, tk, os⟩ → wpAny (model prog w) A' (pyIter v) Q E ⟨hp, g, d, tk, os⟩ :=
      fun q => B.iter prog w _ _ ⟨hp, g, d, tk, os⟩ _ h1 q
    wp_walk using q1
    refine wpAny_stack_any fun st => wpAny_pure ?_
    split
    · rename_i c _ _ _ _ _
      cases (c == Value.type "enumerate")
      · wp_walk using q1
        exact ⟨_, rfl, h⟩
      · wp_walk using q1
        exact ⟨_, rfl, h⟩
    · wp_walk using q1
      exact ⟨_, rfl, h⟩
theorem call_enum1 {prog : Program} {w : World} {A : Around} {E : Value → Shared → Prop} {s : Shared} {v : Value} {o : Obj} {H : Heap → Prop} {Q : Value → Shared → Prop} (B : Begins v o H) (h1 : H s.heap)
    (h : ∀ h', IsEnum h' (s.heap.objs.size + 1) s.heap.objs.size 0 .none → h'.get? s.heap.objs.size = some o → h'.objs.size = s.heap.objs.size + 2 →
      (∀ b o, s.heap.get? b = some o → h'.get? b = some o) → Q (.ref (s.heap.objs.size + 1)) { s with heap := h' }) :
    wpAny (model prog w) A (call (.type "enumerate") [v]) Q E s := by
  refine callType_new F.called_enumerate (by decide) (F.typeCall_enumerate_1 _) (F.newCall_enumerate_1 _) (fun obj => F.args_object_init_2 obj _) F.entry_enumerate_new
    (meets_enum1 B) ⟨h1, ?_⟩
  have hz : (s.heap.push o).objs.size = s.heap.objs.size + 1 := Heap.size_push ..
  show _ ∧ _
  rw [hz]
  have he : IsEnum ((s.heap.push o).push { cls := .type "enumerate", data := .fields #[.none, .bool false, .ref s.heap.objs.size, rawInt 0, .none, .none] }) (s.heap.objs.size + 1) s.heap.objs.size 0 .none := by
    have := Heap.get?_push_size (s.heap.push o) (o := { cls := .type "enumerate", data := .fields #[.none, .bool false, .ref s.heap.objs.size, rawInt 0, .none, .none] }) rfl
    rw [hz] at this; exact this
  refine ⟨⟨_, he, rfl⟩, h _ he (Heap.get?_push_of_some _ (Heap.get?_push_size _ B.free)) (by rw [Heap.size_push, hz]) fun b o x => Heap.get?_push_of_some _ (Heap.get?_push_of_some _ x)⟩
/-- the tuple at a, each item in a new pair -/
def IteT (K : PySem.W.Frag) (a : Addr) : It :=
  ⟨fun i H => ∃ (xs : List V) (x : V), SqT K H a xs ∧ xs[i]? = some x, fun i H v H' => ∃ T x, v = .ref T ∧ H T = none ∧ H' = upd H T (.tup [.int (i : Nat), x]) ∧ ∀ xs, SqT K H a xs → xs[i]? = some x, fun i H => ∃ xs : List V, SqT K H a xs ∧ xs.length = i⟩
theorem turn_enumT {P : Program} {w : World} {K : PySem.W.Frag} {elts : List Expr} {kk : Nat} {tpos : Pos} (a e it : Addr) :
    Turn P w K (.Tuple elts kk tpos) (IteT K a) [e, it] e (fun i h => (∃ old, IsEnum h e it ((i : Nat) : Int) old) ∧ h.IsTupleIter it a i ∧ e ≠ it ∧ a ≠ it ∧ e ≠ a) where
  mem := by simp
  obj := fun i h st b hb => by
    obtain ⟨⟨old, he⟩, ⟨o, ho, hc, hd⟩, _⟩ := st
    have e' : b = e ∨ b = it := by simpa using hb
    rcases e' with z | z
    · rw [z]; exact ⟨_, he, fun v q => nomatch q⟩
    · rw [z]; exact ⟨o, ho, fun v q => by rw [hd] at q; cases q⟩
  keep := fun i h h' st k => let ⟨⟨old, he⟩, hi, hne⟩ := st; ⟨⟨old, k e (by simp) _ he⟩, hi.at fun o q => k it (by simp) o q, hne⟩
  item := by
    intro X hP hw hK hc i pins s σ H E I hf st hg
    subst hP hw hK
    obtain ⟨⟨old, he⟩, hit, hne, hna, hea⟩ := st
    obtain ⟨xs, x, hq, hx⟩ := hg
    obtain ⟨its, rv, p, hz⟩ := I.tuple hq
    obtain ⟨u, hu, ru⟩ := rv.get hx
    have hel : e < s.heap.objs.size := Heap.lt_size he
    have hil : it < s.heap.objs.size := by obtain ⟨_, q, _⟩ := hit; exact Heap.lt_size q
    have hlt : i < its.toArray.size := by
      have := (List.getElem?_eq_some_iff.mp hu).1
      simpa using this
    have D := Draws.tuple (prog := X.prog) (w := X.w) (A := X.A.in1) (I.ok.hd hc) it a hna its.toArray
    refine wpAny_pyNext_enum_itemD D he ⟨hit, p⟩ hlt hne (by simp [hne, hea]) fun x' h' tk hP ho hst' hT hsz hk => ?_
    have ex : x' = u := by
      have : its.toArray[i]? = some x' := hP
      rw [List.getElem?_toArray, hu] at this
      exact (Option.some.inj this).symm
    subst ex
    refine ⟨_, rfl, wpAny_letOwnedTupleGo_enum (s := { s with heap := h', toks := tk + 1 }) ho fun h'' he' sb => ?_⟩
    have hT2 : h''.get? s.heap.objs.size = some { cls := .type "tuple", data := .seq #[.int i tk, x'] } := (sb.2 _ (Nat.ne_of_gt hel)).trans hT
    have new : ObjOk X.prog X.w (upd H s.heap.objs.size (.tup [.int (i : Nat), x])) h'' s.heap.objs.size (.tup [.int (i : Nat), x]) :=
      ⟨by show 2 ≤ sizeLine; decide, [.int i tk, x'], .cons ⟨_, rfl⟩ (.cons ru .nil), ⟨_, hT2, rfl, _, rfl⟩⟩
    have I1 : Inv X pins σ (upd H s.heap.objs.size (.tup [.int (i : Nat), x])) { s with heap := h'', toks := tk + 1 } :=
      I.turnedNew (ch := [e, it]) (fun b ob hb q => (sb.2 b (fun z => hb (by simp [z]))).trans (hk b ob (fun z => hb (by simp [z])) (fun z => hb (by simp [z])) q)) hf (Nat.le_refl _) new
    refine ⟨.ref s.heap.objs.size, _, I1, rfl, ⟨_, x, rfl, I.hok.fresh (Nat.le_refl _), rfl, fun ys hy => by rw [I.tuple_inj hy hq]; exact hx⟩, ⟨⟨x', ?_⟩, hst'.1.at fun o q => (sb.2 it (Ne.symm hne)).trans q, hne, hna, hea⟩, fun b hb => ?_⟩
    · have e1 : ((i + 1 : Nat) : Int) = (i : Int) + 1 := by omega
      rw [e1]; exact he'
    · have hb' : b < s.heap.objs.size := by
        have e' : b = e ∨ b = it := by simpa using hb
        rcases e' with z | z
        · rw [z]; exact hel
        · rw [z]; exact hil
      rw [upd_ne (Nat.ne_of_lt hb')]
      exact (hf b hb).1
  done := by
    intro X hP hw hK hc i pins s σ H E I hf st hg
    subst hP hw hK
    obtain ⟨⟨old, he⟩, hit, hne, hna, hea⟩ := st
    obtain ⟨xs, hq, hx⟩ := hg
    obtain ⟨its, rv, p, hz⟩ := I.tuple hq
    obtain ⟨f0, f1, f2, f3, f4, f5⟩ := hf it (by simp)
    have hl : i = its.toArray.size := by rw [← hx, rv.length]; simp
    have D := Draws.tuple (prog := X.prog) (w := X.w) (A := X.A.in1) (I.ok.hd hc) it a hna its.toArray
    subst hl
    exact wpAny_pyNext_enum_endD D he ⟨hit, p⟩ fun h' eb => ⟨rfl, I.turned (t' := s.toks) (fun b o hb q => eb b o hb q) f0 f1 f3 f4 f5⟩
  self := fun A i s Q E st h => let ⟨⟨_, he⟩, _⟩ := st; wpAny_pyIter_enum he h
def iEnumT (K : PySem.W.Frag) (ta : TA) : TI := fun σ H R => ta σ H fun vs H1 => ∃ a xs, vs = [.ref a] ∧ SqT K H1 a xs ∧ R (IteT K a) H1
theorem pi_enumT {X : Cx} {e : Expr} {ta : TA} {p pos tpos : Pos} {elts : List Expr} {kk : Nat} (hg : Gl X "enumerate") (hm : X.mg "enumerate" = none) (ha : PA X [e] ta) (hs : starEach [e] X.env = [(false, eval e X.env)] := by rfl) :
    PI X (.Tuple elts kk tpos) (.Call (.Name "enumerate" p) [e] [] pos) (iEnumT X.K ta) := by
  refine ⟨fun pins s σ H R I h => ?_⟩
  refine Call_ (ld_blt I hg hm boot_enumerate (PyProof.Rows.callWith_type1 (thn (ha.run pos pins s σ H _ I h) fun us s1 ⟨vs, H1, I1, r1, q1⟩ => ?_) hs rfl))
  obtain ⟨a, xs, ex, hq, q⟩ := q1
  subst ex
  cases r1 with
  | cons r rr =>
    cases rr
    cases r
    obtain ⟨its, rv, p', hz⟩ := I1.tuple hq
    have hal : a < s1.heap.objs.size := by obtain ⟨o, ho, _⟩ := p'; exact Heap.lt_size ho
    refine call_enum1 (begins_tuple a its.toArray) p' fun h' he hit hsz hk => wpAny_pyIter_enum he ?_
    have I2 : Inv X pins σ H1 { s1 with heap := h' } := I1.kept (t' := s1.toks) hk
    refine ⟨s1.heap.objs.size + 1, [s1.heap.objs.size + 1, s1.heap.objs.size], _, _, H1, rfl, I2, turn_enumT a (s1.heap.objs.size + 1) s1.heap.objs.size, ⟨⟨.none, he⟩, ⟨_, hit, rfl, rfl⟩, Nat.succ_ne_self _, Nat.ne_of_lt hal, fun z => by rw [← z] at hal; exact absurd hal (Nat.not_lt.mpr (Nat.le_succ _))⟩, fun b hb => ?_, q⟩
    have e' : b = s1.heap.objs.size + 1 ∨ b = s1.heap.objs.size := by simpa using hb
    have hle : s1.heap.objs.size ≤ b := by
      rcases e' with z | z
      · rw [z]; exact Nat.le_add_right _ _
      · rw [z]; exact Nat.le_refl _
    exact I1.fpOk hle (I1.hok.fresh hle)

/-! ### repr -/
def dRepr : List D → Rv D
  | [d] => if nodict d = true ∧ d.showable = true ∧ d.depth ≤ 60 ∧ d.shown.length ≤ 16000000 then .ok (.str d.shown) else .un
  | _ => .un
theorem dRepr_1 (d : D) : dRepr [d] = if nodict d = true ∧ d.showable = true ∧ d.depth ≤ 60 ∧ d.shown.length ≤ 16000000 then .ok (.str d.shown) else .un := rfl
def rReprD (K : PySem.W.Frag) : List V → Hp → VK → Prop := fun xs H Q => ∃ v d, xs = [v] ∧ Dp K H v d ∧ nodict d = true ∧ d.showable = true ∧ d.depth ≤ 60 ∧ d.shown.length ≤ sizeLine ∧ Q (.str d.shown) H
mutual
theorem nodict_has : ∀ d : D, nodict d = true → d.hasDict = false
  | .none, _ => by simp only [PyData.hasDict]
  | .bool _, _ => by simp only [PyData.hasDict]
  | .int _, _ => by simp only [PyData.hasDict]
  | .str _, _ => by simp only [PyData.hasDict]
  | .list xs, h => by simp only [PyData.hasDict]; exact nodictA_has xs (by simpa [nodict] using h)
  | .tuple xs, h => by simp only [PyData.hasDict]; exact nodictA_has xs (by simpa [nodict] using h)
  | .dict _, h => by simp [nodict] at h
theorem nodictA_has : ∀ ds : List D, nodictA ds = true → PyData.hasDictAll ds = false
  | [], _ => by simp only [PyData.hasDictAll]
  | d :: ds, h => by
    rw [nodictA, Bool.and_eq_true] at h
    simp only [PyData.hasDictAll, nodict_has d h.1, nodictA_has ds h.2, Bool.or_false]
end
theorem call_reprD {X : Cx} (hgd : X.A.guards = some []) (hu : X.A.units + 65 < cLine) : CallR X (.builtin "repr") (rReprD X.K) := by
  intro pins s σ H xs us Q I r h
  obtain ⟨v, d, rfl, hd, hn, hs, hde, hz, q⟩ := h
  cases r with
  | cons r1 r2 =>
    cases r2
    have fin : ∀ {u : Tok} {h' : Heap} {tk : Nat}, (∀ b o, s.heap.get? b = some o → h'.get? b = some o) → EP X pins σ Q (.str d.shown u) { s with heap := h', toks := tk } := fun {u h' tk} k => ⟨.str d.shown, H, I.kept k, ⟨u, rfl⟩, q⟩
    obtain ⟨as, rd⟩ := Dp.reads I d v _ hd r1
    have hsm := PyData.noDict_hsm (as := as) (nodict_has d hn)
    cases d with
    | none => cases hd; cases r1; exact P.repr_of_none (by simp only [PyData.shown] at fin; exact fin fun _ _ e => e)
    | bool b => cases hd; cases r1; exact P.repr_of_bool (by simp only [PyData.shown] at fin; exact fin fun _ _ e => e)
    | int i => cases hd; obtain ⟨t, rfl⟩ := r1; exact P.repr_of_int (by simpa [PyData.showable] using hs) (by simp only [PyData.shown] at fin; exact fin fun _ _ e => e)
    | str x => cases hd; obtain ⟨t, rfl⟩ := r1; exact P.repr_of_str (by simp only [PyData.shown] at fin; exact fin fun _ _ e => e) (by simpa only [PyData.shown] using hz)
    | list ds =>
      cases hd with
      | lst h1 h2 => cases r1; exact repr_of_reads' rd hs hsm hgd (by omega) (fun _ _ e => e) (fun h' u tk k => fin k) hz
    | tuple ds =>
      cases hd with
      | tup h1 h2 => cases r1; exact repr_of_reads' rd hs hsm hgd (by omega) (fun _ _ e => e) (fun h' u tk k => fin k) hz
    | dict ds => simp [nodict] at hn
section
variable {S : Sx}
theorem on_repr : OpN S (rReprD S.K) dRepr := by
  intro xs ds H Z Q σ z r h
  cases r with
  | nil => exact False.elim h
  | cons r1 r2 =>
    cases r2 with
    | cons _ _ => exact False.elim h
    | nil =>
      rw [dRepr_1] at h
      split at h
      · rename_i hc
        exact ⟨_, _, rfl, (r1.gr (Gr.hid_le H Z)).dp hc.1, hc.1, hc.2.1, hc.2.2.1, line_ge hc.2.2.2, Post.ok (R := RE S) h (.str _)⟩
      · exact False.elim h
theorem call_reprX {S : Sx} (X : Cx) (hX : S.At X) : CallR X (.builtin "repr") (rReprD S.K) := hX.hK ▸ call_reprD hX.gd hX.units

/-! ### for a, b in enumerate(..) -/
def pairs : Nat → List D → List D
  | _, [] => []
  | i, d :: ds => .tuple [.int (i : Nat), d] :: pairs (i + 1) ds
theorem pairs_drop : ∀ (ds : List D) (i k : Nat), (pairs k ds).drop i = pairs (k + i) (ds.drop i)
  | [], i, k => by simp [pairs]
  | d :: ds, 0, k => by simp [pairs]
  | d :: ds, i + 1, k => by
    show (pairs (k + 1) ds).drop i = pairs (k + (i + 1)) (ds.drop i)
    rw [pairs_drop ds i (k + 1), show k + 1 + i = k + (i + 1) by omega]
def sforE (M : List Nat) (is : List Nat) (f : Vw → Rv (List D)) (g : Env' → Res) (ρ : Env') : Res := (f (vw M ρ)).st fun ds => match ds with
  | [d] => match items d with
    | some xs => forL (bTup is) g (pairs 0 xs) (if imm d = true then ρ else frz M ρ)
    | none => .un
  | _ => .un
theorem ss_forE {e : Expr} {ts : List Expr} {kt : Nat} {pt p pos pos' : Pos} {body : List Stmt} {is : List Nat} {f : Vw → Rv (List D)} {g : Env' → Res} (M : List Nat) (hm : S.mg "enumerate" = none) (ht : SemG S ts is) (hi : SemA S [e] f) (hb : SemSs S body g) (hdf : S.df = true := by rfl)
    (hgl : S.sc.names.lookup ("enumerate" : Str) = some .globalImplicit := by rfl) (hst : ∀ env, starEach [e] env = [(false, eval e env)] := by intro _; rfl)
    (hn : ∀ env, (assignEach ts env).length = is.length := by intro _; rfl) (hst2 : ∀ env, (assignEach ts env).findIdx? (·.1) = none := by intro _; rfl)
    (hs : ∀ env x, foldedSetIterable (.Call (.Name "enumerate" p) [e] [] pos) env x = pure x := by intro _ _; rfl) : SemS S (.For (.Tuple ts kt pt) (.Call (.Name "enumerate" p) [e] [] pos) body [] pos') (sforE M is f g) := by
  obtain ⟨ti, pi, qi⟩ := hi.ex
  obtain ⟨tt, ptt, qt⟩ := (tg_tup (S := S) (kt := kt) (pt := pt) ht hn hst2).ex
  obtain ⟨tb, pb, qb⟩ := hb.ex
  refine ⟨⟨tFor (fun σ H R => iEnum S.K ti σ H R ∨ iEnumT S.K ti σ H R) tt tb, fun X hX => ?_, fun ρ F H0 Z σ H Dn ⟨o, k⟩ h => ?_⟩⟩
  · rw [← hX.hK]
    have hg' : Gl X "enumerate" := by show X.env.scope.names.lookup ("enumerate" : Str) = _; rw [hX.hsc]; exact hgl
    exact ps_for (hX.pass hdf) hX.calm (PI.or (pi_enum hg' (by rw [hX.hmg]; exact hm) (pi X hX) (hst _)) (pi_enumT hg' (by rw [hX.hmg]; exact hm) (pi X hX) (hst _))) (ptt X hX) (pb X hX) (hs _)
  · unfold sforE at h
    cases ef : f (vw M ρ) with
    | un => rw [ef] at h; exact False.elim h
    | xc x =>
      refine .inl (qi (vw M ρ) σ H (hz Z ρ o M) _ k.hin k.view ?_)
      rw [ef] at h ⊢
      exact fun cls dx H' e q => h cls dx σ H' (k.gr.trans e) (k.out e) (q.gr ((Gr.refl H').hid2 fun a z => .inl z))
    | ok dl =>
      rw [ef] at h
      simp only [Rv.st_ok] at h
      cases dl with
      | nil => exact False.elim h
      | cons d dr =>
        cases dr with
        | cons _ _ => exact False.elim h
        | nil =>
          have h : PostS S F H0 Z Dn (match items d with | some xs => forL (bTup is) g (pairs 0 xs) (if imm d = true then ρ else frz M ρ) | none => .un) := h
          have start : ∀ {v : V} {H' : Hp}, OkAt S.c F H0 Z ρ o σ H' → Rp S.c (hid H' (hz Z ρ o M)) v d → ∃ F1, Gr F F1 ∧ Gr F1 H' ∧ Ok S.c F1 H0 Z (if imm d = true then ρ else frz M ρ) σ H' ∧ Rp S.c F1 v d := by
            intro v H' k' r
            by_cases hm : imm d = true
            · rw [if_pos hm]
              exact ⟨_, k'.fr, Gr.hid_le _ _, ⟨o, k'.keep (Gr.refl _)⟩, k'.imm hm r⟩
            · rw [if_neg hm]
              have k3 := k'.freeze M
              exact ⟨_, k3.fr, Gr.hid_le _ _, ⟨o, k3.keep (Gr.refl _)⟩, by rw [hid_frz]; exact r⟩
          -- one turn: a new pair
          have turn : ∀ (F1 : Hp) (xs : List V) (ds : List D) (i : Nat) (σ' : L2.St) (H2 H3 : Hp) (x : V) (Nx : L2.St → Hp → Prop), Gr F F1 → RpA S.c F1 xs ds → YPair (fun i => some (.int (i : Nat))) (fun i => xs[i]?) i H2 x H3 →
              (∃ ρ', Ok S.c F1 H0 Z ρ' σ' H2 ∧ PostS S F H0 Z Dn (forL (bTup is) g ((pairs 0 ds).drop i) ρ')) →
              (∀ σ3 H4, (∃ ρ', Ok S.c F1 H0 Z ρ' σ3 H4 ∧ PostS S F H0 Z Dn (forL (bTup is) g ((pairs 0 ds).drop (i + 1)) ρ')) → Nx σ3 H4) →
              tt x σ' H3 fun σ2 H2 => tb { Dn with nx := Nx, ct := Nx, bk := Dn.nx } σ2 H2 := by
            intro F1 xs ds i σ' H2 H3 x Nx eF r2 hy ⟨ρ', ⟨o', k2⟩, hp⟩ hN
            obtain ⟨T, a0, y, rfl, hT, rfl, e1, e2⟩ := hy
            cases e1
            obtain ⟨dy, hd, rd⟩ := RpA.got r2 e2
            rw [pairs_drop, Nat.zero_add, drop_cons hd] at hp
            have hp : PostS S F H0 Z Dn (forL (bTup is) g (.tuple [.int (i : Nat), dy] :: pairs (i + 1) (ds.drop (i + 1))) ρ') := hp
            have k3 := (k2.grow (Gr.new (o := .tup [.int (i : Nat), y]) hT)).keep (Gr.refl _)
            have hid3 : hid (upd H2 T (.tup [.int (i : Nat), y])) (hz Z ρ' o' []) T = some (.tup [.int (i : Nat), y]) := hid_new (k2.hin (M := [])) hT
            have g13 : Gr F1 (hid (upd H2 T (.tup [.int (i : Nat), y])) (hz Z ρ' o' [])) := k2.fr.trans ((Gr.new hT).hid _)
            refine turn_run (F1 := hid (upd H2 T (.tup [.int (i : Nat), y])) (hz Z ρ' o' [])) qt qb (eF.trans g13) ⟨o', k3⟩ (.tup (.inl (.inl hid3)) (.cons (.int _) (.cons (rd.gr g13) .nil))) hp fun ρ2 σ3 H4 k4 h4 => ?_
            refine hN σ3 H4 ⟨ρ2, k4.keep g13, ?_⟩
            rw [pairs_drop, Nat.zero_add]
            exact h4
          have done : ∀ (F1 : Hp) (xs : List V) (ds : List D) (σ' : L2.St) (H2 : Hp), Gr F F1 → RpA S.c F1 xs ds → (∃ ρ', Ok S.c F1 H0 Z ρ' σ' H2 ∧ PostS S F H0 Z Dn (forL (bTup is) g ((pairs 0 ds).drop xs.length) ρ')) → Dn.nx σ' H2 := by
            intro F1 xs ds σ' H2 eF r2 ⟨ρ', k2, hp⟩
            rw [pairs_drop, RpA.length r2, List.drop_length] at hp
            exact hp σ' H2 (k2.keep eF)
          cases d with
          | list ds =>
            refine .inl (qi (vw M ρ) σ H (hz Z ρ o M) _ k.hin k.view ?_)
            rw [ef]
            intro vs H' e r
            have k' := k.grow e
            cases r with
            | cons r rn =>
              cases rn
              obtain ⟨F1, eF, gF, k1, r1⟩ := start k' r
              cases r1 with
              | @lst a xs _ r1 r2 =>
                refine ⟨a, xs, rfl, (gF.rdl r1).sq, ?_⟩
                exact for_it (walk_enum (K := S.K) (a := a) (xs := xs)) (g := tt) (tb := tb) (D := Dn) (σ := σ) (H := H') (fun i σ' H2 => ∃ ρ', Ok S.c F1 H0 Z ρ' σ' H2 ∧ PostS S F H0 Z Dn (forL (bTup is) g ((pairs 0 ds).drop i) ρ')) ⟨_, k1, h⟩
                  (fun i σ' H2 _ ⟨ρ', ⟨o', k2⟩, _⟩ => ((k2.fr.trans (Gr.hid_le _ _)).rdl r1).sq) (fun i x σ' H2 H3 _ w hy => turn F1 xs ds i σ' H2 H3 x _ eF r2 hy w fun σ3 H4 w => w) (fun σ' H2 w => done F1 xs ds σ' H2 eF r2 w)
          | tuple ds =>
            refine .inr (qi (vw M ρ) σ H (hz Z ρ o M) _ k.hin k.view ?_)
            rw [ef]
            intro vs H' e r
            have k' := k.grow e
            cases r with
            | cons r rn =>
              cases rn
              obtain ⟨F1, eF, gF, k1, r1⟩ := start k' r
              cases r1 with
              | @tup a xs _ r1 r2 =>
                refine ⟨a, xs, rfl, gF.sqT r1, ?_⟩
                have wk : Walk (IteT S.K a) xs.length (fun H => SqT S.K H a xs) (YPair (fun i => some (.int (i : Nat))) (fun i => xs[i]?)) := by
                  refine ⟨fun i _ hi q => ⟨xs, xs[i], q, by simp [hi]⟩, fun _ q => ⟨xs, q, rfl⟩, fun i H v H' _ q y => ?_⟩
                  obtain ⟨T, x, h1, h2, h3, h4⟩ := y
                  exact ⟨T, .int (i : Nat), x, h1, h2, h3, rfl, h4 xs q⟩
                exact for_it wk (g := tt) (tb := tb) (D := Dn) (σ := σ) (H := H') (fun i σ' H2 => ∃ ρ', Ok S.c F1 H0 Z ρ' σ' H2 ∧ PostS S F H0 Z Dn (forL (bTup is) g ((pairs 0 ds).drop i) ρ')) ⟨_, k1, h⟩
                  (fun i σ' H2 _ ⟨ρ', ⟨o', k2⟩, _⟩ => (k2.fr.trans (Gr.hid_le _ _)).sqT r1) (fun i x σ' H2 H3 _ w hy => turn F1 xs ds i σ' H2 H3 x _ eF r2 hy w fun σ3 H4 w => w) (fun σ' H2 w => done F1 xs ds σ' H2 eF r2 w)
          | _ => exact False.elim h
end
end Bv

namespace Bv
open PySem PySem.Spec L2 PyProof.Rows

/-! ### the end: a law's def, told of data, called with a row of whole numbers -/
section
variable {P : Program} {w : World} {K : PySem.W.Frag} {mg mb : Str → Option Value} {s₁ : Shared}
/-- one call, from a heap in which at most the row is tracked -/
theorem call_from {k : Nat} {fa a : Addr} {nm : Str} {g : List D → Rv D} {ns : List Int} {vs : List Value} {H : Hp}
    (KX : K.In s₁.heap) (hns : s₁.heap.Ns mainGlobals mg) (hb : s₁.heap.Ns builtinsNs mb) (hbb : ∀ x : Str, x ≠ "__name__" → mb x = bootBuiltins x) (hlim : s₁.heap.NoLimit) (hg : s₁.gens = #[])
    (ha : s₁.heap.get? a = some { cls := .type "list", data := .seq vs.toArray }) (hr : Room k callerA) (hfa : mg nm = some (.ref fa)) (F : ∀ base, Lk ⟨P, w, K, mg, base⟩ k nm 1 g) (hlaw : g [.list (ns.map .int)] = .ok (.bool true))
    (hH : ∀ b u, H b = some u → b = a ∧ K.lookup a = none ∧ ∃ o xs, u = .frz o (.lst xs)) (hok : HOk P w H s₁.heap) (hS : RdL K H a (ns.map V.int)) :
    codeAny (model P w) callerA (.call (.ref fa) ⟨[.ref a], []⟩) (fun r s' => r = .ok (.ret (.bool true)) ∧ OldK s₁.heap s'.heap ∧ s'.os = s₁.os ∧ AllBare s'.gens) s₁ := by
  have free : ∀ {b : Addr}, b ≠ a → H b = none := fun {b} hb => by
    cases e : H b with
    | none => rfl
    | some u => exact absurd (hH b u e).1 hb
  have kept : ∀ {b : Addr} {o : Obj}, s₁.heap.get? b = some o → H b = none → (hidT s₁.heap H).get? b = some o := fun e n => hidT_get e n
  have nsB : ∀ {b : Addr} {m : Str → Option Value}, s₁.heap.Ns b m → (hidT s₁.heap H).Ns b m := fun {b m} ⟨o, es, ep, e, d, r⟩ => ⟨o, es, ep, kept e (free fun z => by
    subst z
    rw [ha] at e
    obtain rfl := Option.some.inj e
    exact absurd (show Data.seq vs.toArray _ = Data.dict es ep from d) (by simp)), d, r⟩
  have kIn : K.In (hidT s₁.heap H) := fun b o e => kept (KX b o e) (by
    cases q : H b with
    | none => rfl
    | some u =>
      obtain ⟨e1, e2, _⟩ := hH b u q
      rw [e1, e2] at e
      cases e)
  have hM : Mod K mg (hidT s₁.heap H) := ⟨kIn, nsB hns, ⟨mb, nsB hb, hbb⟩, hlim.imp fun mc q => ⟨nsB q.1, q.2⟩⟩
  have e0 : Env0 P w K mg (hidT s₁.heap H) callerA [] s₁ H := ⟨rfl, hM, fun b o e => of_hidT e, Nat.le_of_eq (hidT_size _ _), trivial, fun b hb => absurd (show b ∈ ([] : List Addr) from hb) (by simp), hok, .of_eq hg⟩
  obtain ⟨f, fd, ps, F, hm, _, hbd⟩ := (F (hidT s₁.heap H)).ex
  have hm : mg nm = some (.ref f) := hm
  obtain rfl : f = fa := by rw [hfa] at hm; cases hm; rfl
  have rD : ∀ xs : List Int, RpA ⟨P, w, K, mg⟩ (hid H fun _ => False) (xs.map V.int) (xs.map .int) := fun xs => by
    induction xs with
    | nil => exact .nil
    | cons x xs ih => exact .cons (.int x) ih
  have eH : Gr H (hid H fun _ => False) := fun b o e => by rw [hid_no (fun z => z)]; exact e
  have hsp : spD ⟨P, w, K, mg⟩ mg 1 g [.ref a] H (fun v _ => v = .bl true) fun _ _ _ => False := by
    refine ⟨fun _ => False, [.list (ns.map .int)], rfl, fun _ z => z.elim, .cons (.lst (eH.rdl hS) (rD ns)) .nil, ?_⟩
    rw [hlaw]
    intro v H' _ r
    cases r
    rfl
  have hl := F.len _ _ _ _ hsp
  have bd := hbd s₁ [.ref a] KX (by simpa using hl)
  rw [List.append_nil] at bd
  refine codeAny_mono (F.run callerA [] s₁ H ⟨[.ref a], []⟩ [.ref a] [.ref a] _ _ rfl hr e0 bd (.cons rfl .nil) hsp) fun r s' h => ?_
  cases r with
  | error e =>
    obtain ⟨_, _, _, _, _, _, _, _, _, _, _, _, _, _, _, _, z⟩ := h
  | ok fl =>
    cases fl with
    | ret u =>
      obtain ⟨v, H', os, bare, un, hok', rv, qv⟩ := h
      obtain rfl : v = .bl true := qv
      obtain rfl : u = Value.bool true := rv
      refine ⟨rfl, OldK.of_keep fun b o e => ?_, os, bare⟩
      cases q : H b with
      | none => exact un.keep b o e q (by intro z; exact absurd (show b ∈ ([] : List Addr) from z) (by simp)) (by simp)
      | some u =>
        obtain ⟨_, _, ob, xs, rfl⟩ := hH b u q
        obtain ⟨e1, _⟩ := hok b _ q
        obtain ⟨e2, _⟩ := hok' b _ (un.frzs b ob _ q)
        rw [e] at e1
        cases e1
        exact e2
    | _ => exact False.elim h
/-- the call of the law -/
theorem law_G {k : Nat} {fa a : Addr} {nm : Str} {g : List D → Rv D} {ns : List Int} {vs : List Value}
    (KX : K.In s₁.heap) (hns : s₁.heap.Ns mainGlobals mg) (hb : s₁.heap.Ns builtinsNs mb) (hbb : ∀ x : Str, x ≠ "__name__" → mb x = bootBuiltins x) (hlim : s₁.heap.NoLimit) (hg : s₁.gens = #[])
    (ha : s₁.heap.get? a = some { cls := .type "list", data := .seq vs.toArray }) (hi : IntsAre vs ns) (hl : ns.length ≤ sizeLine) (hr : Room k callerA) (hfa : mg nm = some (.ref fa)) (F : ∀ base, Lk ⟨P, w, K, mg, base⟩ k nm 1 g) (hlaw : g [.list (ns.map .int)] = .ok (.bool true)) :
    codeAny (model P w) callerA (.call (.ref fa) ⟨[.ref a], []⟩) (fun r s' => r = .ok (.ret (.bool true)) ∧ OldK s₁.heap s'.heap ∧ s'.os = s₁.os ∧ AllBare s'.gens) s₁ := by
  have rv := vals_ints hi
  cases hk : K.lookup a with
  | some o =>
    have e := KX a o hk
    rw [ha] at e
    cases e
    exact call_from (H := fun _ => none) KX hns hb hbb hlim hg ha hr hfa F hlaw (fun b u z => by cases (show (none : Option HO) = some u from z)) (fun b u z => by cases (show (none : Option HO) = some u from z)) (.inr ⟨vs, _, hk, rv, by rw [List.length_map]; exact hl⟩)
  | none =>
    refine call_from (H := upd (fun _ => none) a (.frz { cls := .type "list", data := .seq vs.toArray } (.lst (ns.map V.int)))) KX hns hb hbb hlim hg ha hr hfa F hlaw (fun b u z => ?_) (fun b u z => ?_) (.inl (.inr ⟨_, upd_same⟩))
    all_goals
      by_cases hba : b = a
      · subst hba
        rw [upd_same] at z
        cases z
        first
          | exact ⟨rfl, hk, _, _, rfl⟩
          | exact ⟨ha, by rw [List.length_map]; exact hl, vs, _, rv, ha⟩
      · rw [upd_ne hba] at z
        cases z
end
/-- what the row's head leaves: from the law's meaning -/
theorem walk_G {l : PySem.W.OpenLaw} {q : Program} {loose : List Str} {XP : (Str → Option Value) → Heap → Prop} {YP : World → Heap → Prop} {d : DefRec} {K : Params → PySem.W.Frag} {k : Nat} {g : List D → Rv D} (hn : l.most = some 63) (hdf : d.params.defaults = [])
    (hr : Room k callerA) (hY : ∀ (w : World) (h : Heap), YP w h → (K w.params).In h)
    (F : ∀ (w : World) (mg : Str → Option Value) (h : Heap) (base : Heap), (K w.params).In h → h.Ns mainGlobals mg → Lk ⟨l.prog, w, K w.params, mg, base⟩ k d.name 1 g)
    (hlaw : ∀ ns : List Int, ns.length ≤ 63 → (∀ z ∈ ns, Builtin.Int.intBits z ≤ 1048576) → g [.list (ns.map .int)] = .ok (.bool true)) :
    PySem.W.WalkO q loose XP YP l.row.toRowW d [] (fun f vs => PySem.call f vs) :=
  Att.attach_callB hn hdf fun w s₀ s₁ mg mb fa o pm cd doc a vs ns G Y ho hd hcd hmg hobj hints hlen hbits hg =>
    law_G (hY w _ Y) G.T.g G.T.b G.T.builtins G.T.nolimit hg hobj hints (Nat.le_trans hlen (by decide)) hr hmg (fun base => F w mg _ base (hY w _ Y) G.T.g) (hlaw ns hlen hbits)
end Bv

namespace Bv
open PySem PySem.Spec L2 PyProof.Rows
/-! ### list times a whole number, list + list: new lists -/
section
variable {S : Sx}
def dMulF : D → D → Rv (List D)
  | .list xs, .int k => if -1000 ≤ k ∧ k ≤ 1000 ∧ xs.length ≤ 1000 then .ok (List.replicate k.toNat xs).flatten else .un
  | _, _ => .un
def dAddF : D → D → Rv (List D)
  | .list xs, .list ys => if xs.length + ys.length ≤ 16000000 then .ok (xs ++ ys) else .un
  | _, _ => .un
def biF (g : D → D → Rv (List D)) (fa fb : Vw → Rv D) (η : Vw) : Rv (List D) := (fa η).bind fun a => (fb η).bind fun b => g a b
theorem dMulF_l (xs : List D) (k : Int) : dMulF (.list xs) (.int k) = if -1000 ≤ k ∧ k ≤ 1000 ∧ xs.length ≤ 1000 then .ok (List.replicate k.toNat xs).flatten else .un := rfl
theorem dAddF_l (xs ys : List D) : dAddF (.list xs) (.list ys) = if xs.length + ys.length ≤ 16000000 then .ok (xs ++ ys) else .un := rfl
theorem biF_run {ta tb : TE} {fa fb : Vw → Rv D} {r : R2} {g : D → D → Rv (List D)}
    (hr : ∀ x y a b H Z Q σ, In Z H → Rp S.c (hid H Z) x a → Rp S.c (hid H Z) y b → Post S (RF S) σ Z H (fun p H' => H' p.1 = none → Q (.ref p.1) (upd H' p.1 (.lst p.2))) (g a b) → r x y H Q)
    (ha : Tells S (RE S) ta fa) (hb : Tells S (RE S) tb fb) : TellsF S (tOp r ta tb) (biF g fa fb) := by
  intro η σ H Z Q z hη h
  refine ha η σ H Z _ z hη (Post.bind h fun a x H1 _ e1 r1 h1 => ?_)
  refine hb η σ H1 Z _ (z.gr e1) (hη.gr (e1.hid Z)) (Post.bind h1 fun b y H2 _ e2 r2 h2 => ?_)
  exact hr x y a b H2 Z Q σ ((z.gr e1).gr e2) (r1.gr (e2.hid Z)) r2 h2
theorem sf_mul {a b : Expr} {fa fb : Vw → Rv D} {pos : Pos} (ha : SemE S a fa) (hb : SemE S b fb) : SemF S (.BinOp a .Mult b pos) (biF dMulF fa fb) := by
  obtain ⟨ta, pa, qa⟩ := ha.ex
  obtain ⟨tb, pb, qb⟩ := hb.ex
  refine ⟨⟨_, fun X hX => pe_op (hX.hK ▸ op_repR) (pa X hX) (pb X hX), biF_run ?_ qa qb⟩⟩
  intro x y a b H Z Q σ z ra rb h
  cases ra with
  | lst h1 r1 =>
    cases rb with
    | int k =>
      rw [dMulF_l] at h
      split at h
      · rename_i hc
        have hl := RpA.length r1
        refine ⟨_, k, _, rfl, rfl, (Gr.hid_le H Z).rdl h1, by omega, by omega, ?_, fun p hp => h (p, _) H (Gr.refl H) (RpA.rep r1 _) hp⟩
        rw [hl]
        exact line_ge (Nat.le_trans (Nat.mul_le_mul hc.2.2 (show k.toNat ≤ 1000 by omega)) (by decide))
      · exact False.elim h
    | _ => exact False.elim h
  | _ => exact False.elim h
theorem sf_add {a b : Expr} {fa fb : Vw → Rv D} {pos : Pos} (ha : SemE S a fa) (hb : SemE S b fb) : SemF S (.BinOp a .Add b pos) (biF dAddF fa fb) := by
  obtain ⟨ta, pa, qa⟩ := ha.ex
  obtain ⟨tb, pb, qb⟩ := hb.ex
  refine ⟨⟨_, fun X hX => pe_op (hX.hK ▸ op_catR) (pa X hX) (pb X hX), biF_run ?_ qa qb⟩⟩
  intro x y a b H Z Q σ z ra rb h
  cases ra with
  | lst h1 r1 =>
    cases rb with
    | lst h2 r2 =>
      rw [dAddF_l] at h
      split at h
      · rename_i hc
        have e1 := RpA.length r1
        have e2 := RpA.length r2
        exact ⟨_, _, _, _, rfl, rfl, (Gr.hid_le H Z).rdl h1, (Gr.hid_le H Z).rdl h2, line_ge (by omega), fun p hp => h (p, _) H (Gr.refl H) (RpA.append r1 r2) hp⟩
      · exact False.elim h
    | _ => exact False.elim h
  | _ => exact False.elim h
end
/-! ### x.insert(i, e), x a list of one's own -/
theorem TreeA.ins {c : Cz} {Hv H : Hp} {n : Nat} {v : V} {d : D} (hd : Tree c Hv H n v d []) {vs : List V} : ∀ {ds : List D} {U : List Addr} (i : Nat), TreeA c Hv H n vs ds U → TreeA c Hv H n (vs.take i ++ [v] ++ vs.drop i) (ds.take i ++ [d] ++ ds.drop i) U := by
  induction vs with
  | nil =>
    intro ds U i h
    cases h
    simp only [List.take_nil, List.drop_nil, List.nil_append, List.append_nil]
    exact .cons (U := []) (W := []) hd .nil (fun a h => by cases h)
  | cons w vs ih =>
    intro ds U i h
    cases i with
    | zero =>
      simp only [List.take_zero, List.drop_zero, List.nil_append, List.singleton_append]
      exact .cons (U := []) hd h (fun a h => by cases h)
    | succ i =>
      cases h with
      | cons h1 h2 h3 =>
        simp only [List.take_succ_cons, List.drop_succ_cons, List.cons_append]
        exact .cons h1 (ih i h2) h3
section
variable {S : Sx}
def ins (j : Nat) (M : List Nat) (f : Vw → Rv (List D)) (ρ : Env') : Res := match ρ[j]? with
  | some (.ow (n + 1) (.list xs)) => (f (vw M ρ)).st fun ds => match ds with
    | [.int i, y] => if xs.length < 16000000 ∧ 0 ≤ i ∧ i < 1000000000 ∧ imm y = true then .nx (ρ.set j (.ow (n + 1) (.list (xs.take i.toNat ++ [y] ++ xs.drop i.toNat)))) else .un
    | _ => .un
  | _ => .un
def rIns : V → List V → Hp → VK → Prop := fun x vs H Q => ∃ (l : Addr) (xs : List V) (i : Int) (y : V), x = .ref l ∧ vs = [.int i, y] ∧ H l = some (.lst xs) ∧ xs.length < sizeLine ∧ 0 ≤ i ∧ i < 2 ^ 63 ∧
    Q .non (upd H l (.lst (xs.take i.toNat ++ [y] ++ xs.drop i.toNat)))
theorem ss_ins {j : Nat} {x : Str} {a e : Expr} {f : Vw → Rv (List D)} {p1 p2 p3 p4 : Pos} (M : List Nat) (he : SemA S [a, e] f) (hN : S.N[j]? = some x := by rfl) (hv : Vis S.sc x := by first | exact Or.inl rfl | exact Or.inr (Or.inl rfl) | exact Or.inr (Or.inr rfl)) (hd : (x == ("__debug__" : Str)) = false := by decide)
    (hcd : (x == ("__classdict__" : Str)) = false := by decide) (hbase : ∀ env, attributeBase (.Name x p1) "insert" env (eval (.Name x p1) env) = eval (.Name x p1) env := by intro _; rfl)
    (hfew : ∀ env, ((backTo p3 (starEach [a, e] env)).all (fun x => !x.1) && (backToKw p3 (keywordEach [] env)).all (fun x => x.1.isSome)
      && decide (([a, e] : List Expr).length + ([] : List Keyword).length + (if ([] : List Keyword).isEmpty then 0 else 1) < 30)) = true := by intro _; rfl)
    (hline : (p2.endLine == p3.line) = true := by rfl) (hs : ∀ env, starEach [a, e] env = (false, eval a env) :: starEach [e] env := by intro _; rfl) (hplain : ∀ env, (backTo p3 (starEach [e] env)).any (·.1) = false := by intro _; rfl)
    (hsw : ∀ env, swapsWith (.Call (.Attribute (.Name x p1) "insert" p2) [a, e] [] p3) none p4.line env = pure false := by intro _; rfl) : SemS S (.Expr (.Call (.Attribute (.Name x p1) "insert" p2) [a, e] [] p3) p4) (ins j M f) := by
  obtain ⟨t, p, q⟩ := he.ex
  refine ⟨⟨tDrop (tBM S.K "list" rIns (tVar j) t), fun X hX => ?_, fun ρ F H0 Z σ H Dn ⟨o, k⟩ h => ?_⟩⟩
  · rw [← hX.hK]
    exact ps_expr (pe_bm PySem.F.plainAttrs_list PySem.F.slot_list_insert PySem.F.type_list_insert mt_insert (pe_var (by rw [hX.hN]; exact hN) (by rw [hX.hsc]; exact hv) hd hcd) (p X hX) (hbase _) (hfew _) hline (hs _) (hplain _)) (hsw _)
  unfold ins at h
  split at h
  · rename_i n xs hj
    obtain ⟨⟨v0, s1, tr⟩, s2⟩ := k.ow j _ _ hj
    obtain ⟨b, vs, W, rfl, hU, s4, s5, s6⟩ := tr.isL
    refine ⟨_, s1, .inl ⟨rfl, vs, .inl (.inl s4)⟩, ?_⟩
    refine q (vw M ρ) σ H (hz Z ρ o M) _ k.hin k.view (run_e (R := RA S) k h fun ds v H' _ k' r h' => ?_)
    obtain ⟨⟨v0', s1', tr'⟩, s2'⟩ := k'.ow j _ _ hj
    rw [s1] at s1'
    cases s1'
    obtain ⟨b', vs', W', ea, hU', w4, w5, w6⟩ := tr'.isL
    cases ea
    have hl := TreeA.length w5
    split at h'
    · rename_i w0 i y _
      split at h'
      · rename_i hc
        cases r with
        | cons r1 r2 =>
          cases r2 with
          | @cons yv _ _ _ r2 r3 =>
            cases r3
            cases r1
            refine ⟨b, vs', i, yv, rfl, rfl, w4, line_gt (by omega), hc.2.1, by omega, ?_⟩
            have hne : ∀ z, z ∉ o j → upd H' b (.lst (vs'.take i.toNat ++ [yv] ++ vs'.drop i.toNat)) z = H' z := fun z hz => upd_ne fun e => hz (by rw [hU', e]; exact List.mem_cons_self)
            have hW : ∀ z ∈ W', upd H' b (.lst (vs'.take i.toNat ++ [yv] ++ vs'.drop i.toNat)) z = H' z := fun z hz => upd_ne fun e => w6 (e ▸ hz)
            refine h' _ _ ⟨o, k'.change hj s1 hne fun Hv e => ?_⟩
            rw [hU']
            exact .lst upd_same (TreeA.ins (.leaf hc.2.2.2 ((k'.imm hc.2.2.2 r2).gr e)) i.toNat (TreeA.gr e hW w5)) w6
      · exact False.elim h'
    · exact False.elim h'
  · exact False.elim h
end
end Bv

namespace Bv
open PySem PySem.Spec L2 PyProof.Rows
/-! ### sorted(a list of whole numbers) -/
def intsOf : List D → Option (List Int)
  | [] => some []
  | .int i :: r => (intsOf r).map (i :: ·)
  | _ :: _ => none
theorem intsOf_map : ∀ (ns : List Int), intsOf (ns.map .int) = some ns
  | [] => rfl
  | n :: ns => by
    show (intsOf (ns.map .int)).map (n :: ·) = _
    rw [intsOf_map ns]
    rfl
theorem intsOf_eq : ∀ {xs : List D} {ns : List Int}, intsOf xs = some ns → xs = ns.map .int
  | [], _, h => by cases h; rfl
  | .int i :: r, ns, h => by
    have h : (intsOf r).map (i :: ·) = some ns := h
    cases e : intsOf r with
    | none => rw [e] at h; cases h
    | some ms => rw [e] at h; cases h; rw [intsOf_eq e]; rfl
  | .none :: _, _, h => by cases h
  | .bool _ :: _, _, h => by cases h
  | .str _ :: _, _, h => by cases h
  | .list _ :: _, _, h => by cases h
  | .tuple _ :: _, _, h => by cases h
  | .dict _ :: _, _, h => by cases h
def sortI (ns : List Int) : List Int := ns.mergeSort fun a b => decide (a ≤ b)
theorem sortI_perm (ns : List Int) : (sortI ns).Perm ns := List.mergeSort_perm _ _
theorem sortI_pw (ns : List Int) : (sortI ns).Pairwise (· ≤ ·) := by
  have := List.pairwise_mergeSort (le := fun a b : Int => decide (a ≤ b)) (fun a b c h1 h2 => by simp at *; omega) (fun a b => by simp; omega) ns
  exact this.imp fun h => of_decide_eq_true h
theorem sorted_unique : ∀ {xs ys : List Int}, xs.Perm ys → xs.Pairwise (· ≤ ·) → ys.Pairwise (· ≤ ·) → xs = ys
  | [], ys, p, _, _ => by rw [List.nil_perm.mp p]
  | x :: xs, [], p, _, _ => absurd p.length_eq (by simp)
  | x :: xs, y :: ys, p, h1, h2 => by
    have e : x = y := by
      have a := (List.pairwise_cons.mp h1).1
      have b := (List.pairwise_cons.mp h2).1
      have hx : x ∈ y :: ys := p.mem_iff.mp List.mem_cons_self
      have hy : y ∈ x :: xs := p.mem_iff.mpr List.mem_cons_self
      rcases List.mem_cons.mp hx with h | h
      · exact h
      · rcases List.mem_cons.mp hy with h' | h'
        · exact h'.symm
        · have := b x h
          have := a y h'
          omega
    subst e
    rw [sorted_unique ((List.perm_cons x).mp p) (List.pairwise_cons.mp h1).2 (List.pairwise_cons.mp h2).2]
theorem sortI_eq {xs ys : List Int} (p : xs.Perm ys) : sortI xs = sortI ys := sorted_unique ((sortI_perm xs).trans (p.trans (sortI_perm ys).symm)) (sortI_pw xs) (sortI_pw ys)
def dSortedF : List D → Rv (List D)
  | [.list xs] => match intsOf xs with | some ns => .ok ((sortI ns).map .int) | none => .un
  | _ => .un
theorem dSortedF_i (ns : List Int) : dSortedF [.list (ns.map .int)] = .ok ((sortI ns).map .int) := by
  show (match intsOf (ns.map .int) with | some ns => Rv.ok ((sortI ns).map PyData.int) | none => .un) = _
  rw [intsOf_map]
theorem RpA.ofInts {c : Cz} {H : Hp} : ∀ ns : List Int, RpA c H (ns.map V.int) (ns.map .int)
  | [] => .nil
  | n :: ns => .cons (.int n) (RpA.ofInts ns)
theorem RpA.isInts {c : Cz} {H : Hp} {vs : List V} : ∀ {ns : List Int}, RpA c H vs (ns.map .int) → vs = ns.map V.int := by
  induction vs with
  | nil =>
    intro ns h
    cases ns with
    | nil => rfl
    | cons n ns => cases h
  | cons v vs ih =>
    intro ns h
    cases ns with
    | nil => cases h
    | cons n ns =>
      cases h with
      | cons h1 h2 =>
        cases h1
        rw [ih h2]
        rfl
section
variable {S : Sx}
theorem on_sorted : OpNF S (rSortedI S.K) dSortedF := by
  intro xs ds H Z Q σ z r h
  cases r with
  | nil => exact False.elim h
  | cons r1 r2 =>
    cases r2 with
    | cons _ _ => cases r1 <;> exact False.elim h
    | nil =>
      cases r1 with
      | @lst a vs ds h1 h2 =>
        have hh : Post S (fun H' (p : Addr × List V) ds => RpA S.c H' p.2 ds) σ Z H (fun p H' => H' p.1 = none → Q (.ref p.1) (upd H' p.1 (.lst p.2))) (match intsOf ds with | some ns => .ok ((sortI ns).map .int) | none => .un) := h
        cases e : intsOf ds with
        | none => rw [e] at hh; exact False.elim hh
        | some ns =>
          rw [e] at hh
          clear h
          obtain rfl := intsOf_eq e
          obtain rfl := RpA.isInts h2
          refine ⟨a, ns, rfl, ((Gr.hid_le H Z).rdl h1).sq, fun ns' p k1 k2 hp => ?_⟩
          have e2 : ns' = sortI ns := sorted_unique (k1.trans (sortI_perm ns).symm) k2 (sortI_pw ns)
          subst e2
          exact hh (p, (sortI ns).map V.int) H (Gr.refl H) (RpA.ofInts _) hp
      | _ => exact False.elim h
end
end Bv

namespace Bv
open PySem PySem.Spec L2 PyProof.Rows

/-! ### an exception that was caught, kept by a name -/
section
variable {X : Cx} {pins : List (Addr × Obj)} {σ : L2.St} {H : Hp} {s : Shared}
/-- an object that stands, not ours as yet and new since the entry, becomes tracked -/
theorem track_more {a : Addr} {o : HO} (I : Inv X pins σ H s) (na : H a = none) (n0 : X.s_0.heap.get? a = none) (nL : a ≠ X.env.locals) (nC : ∀ x c, X.env.cells.lookup x = some c → c ≠ a) (nP : ∀ p ∈ X.pn ++ pins, p.1 ≠ a)
    (new : ObjOk X.prog X.w (upd H a o) s.heap a o) : Inv X pins σ (upd H a o) s := by
  have ne : ∀ {b : Addr} {u : HO}, H b = some u → b ≠ a := fun q => ne_of_none q na
  have n0' : ∀ {b : Addr} {u : Obj}, X.s_0.heap.get? b = some u → b ≠ a := fun {b u} q z => by rw [z, n0] at q; cases q
  exact {
    ok := I.ok, os := I.os, bare := I.bare, loc := I.loc, cell := I.cell, len := I.len
    base := {
      keep := I.base.keep, slot := I.base.slot, there := I.base.there
      free := fun b u q n hx => (upd_ne (n0' q)).trans (I.base.free b u q n hx)
      tups := fun b xs q => by have := I.base.tups b xs q; rw [upd_ne (ne this)]; exact this
      frzs := fun b u xs q => by have := I.base.frzs b u xs q; rw [upd_ne (ne this)]; exact this
      tbls := fun b ps q => by obtain ⟨m, z⟩ := I.base.tbls b ps q; exact ⟨m, by rw [upd_ne (ne z)]; exact z⟩ }
    free := (upd_ne (Ne.symm nL)).trans I.free
    freeC := fun x c q => (upd_ne (nC x c q)).trans (I.freeC x c q)
    pin := fun p hp => let ⟨p1, p2, p3⟩ := I.pin p hp; ⟨p1, (upd_ne (nP p hp)).trans p2, p3⟩
    hok := fun b u q => by
      by_cases hb : b = a
      · subst hb
        rw [upd_same] at q
        cases q
        exact new
      · rw [upd_ne hb] at q
        exact (I.hok b u q).stay (fun _ _ _ z => z) (fun c z => by rw [upd_ne (ne z)]; exact z) fun c xs z => by rw [upd_ne (ne z)]; exact z }
theorem rawE_ok {P : Program} {w : World} {H : Hp} {h : Heap} {a C : Addr} {d : Option Addr} {oe : Obj} {vs : Array Value} (he : h.get? a = some oe) (hz : Zc (.ref C) d oe) (hd : oe.data = .fields vs) : ObjOk P w H h a (rawE a C d) :=
  ⟨⟨oe, vs, he, hz, hd⟩, ⟨oe, he⟩, fun _ _ ⟨o, v, q, r⟩ k => ⟨o, v, k o q, r⟩⟩
theorem rawE_at {P : Program} {w : World} {H : Hp} {h : Heap} {a C : Addr} {d : Option Addr} (hok : HOk P w H h) (he : H a = some (rawE a C d)) : ∃ (oe : Obj) (vs : Array Value), h.get? a = some oe ∧ Zc (.ref C) d oe ∧ oe.data = .fields vs := by
  have x : ObjOk P w H h a (.ext fun h => ∃ (oe : Obj) (vs : Array Value), h.get? a = some oe ∧ Zc (.ref C) d oe ∧ oe.data = .fields vs) := hok a _ he
  exact x.1
end
/-- what 'except x as n: m = n' wishes of an exception of the body (slot i is n's, slot j is m's): it is tracked from then on -/
def wKeep (K : PySem.W.Frag) (nN : Nat) (c : Value) (i j : Nat) (Wo : WX) (D : Ends) : WX := fun cls d σ H => ∃ b, PySem.W.exmOne K cls c = some b ∧
  (b = true → ∃ C, cls = .ref C ∧ ∀ a, H a = none → σ.length = nN → D.nx (((σ.set i (some (.ref a))).set j (some (.ref a))).set i none) (upd H a (rawE a C d))) ∧ (b = false → Wo cls d σ H)
section
variable {X : Cx} {x n m : Str} {c : Value} {i j : Nat} {body : List Stmt} {np p1 p2 p3 pos pos' : Pos} {tb : WX → TS} {Wo : WX}
theorem ps_tryK (hs : X.stack = X.env :: X.outer) (hf : X.env.frame = some X.env.locals) (hex : X.ex = []) (hN : X.N.Nodup) (hi : X.N[i]? = some n) (hin : X.env.kindOf n = some .local) (hj : X.N[j]? = some m) (hjm : X.env.scope.names.lookup m = some .local) (hij : i ≠ j) (hc : Names X x c) (tk : Takes X Wo)
    (hnd : (n == ("__debug__" : Str)) = false) (hncd : (n == ("__classdict__" : Str)) = false)
    (hb : ∀ (W : WX) (pn : List (Addr × Obj)) (xe : Value → Shared → Prop), Takes (X.tr pn xe) W → PassesOwn (model X.prog X.w) X.A X.env xe → PSs (X.tr pn xe) body (tb W)) :
    PS X (.Try body [.ExceptHandler (some (.Name x np)) (some n) [.Assign [.Name m p1] (.Name n p2) p3] pos'] [] [] pos) (fun D σ H => tb (wKeep X.K X.N.length c i j Wo D) D σ H) := by
  refine ⟨fun pins s σ H D I h => ?_⟩
  have ok := I.ok
  have fr0 : X.A.frames = some (X.env :: X.outer) := ok.frames.trans (by rw [hs])
  have locN : Loc X.env.scope n := .inl hin
  refine wpAny_Try_except (wpAny_mono ((hb (wKeep X.K X.N.length c i j Wo D) (X.pn ++ pins) _ (fun u s' xx => ?_) PassesOwn.looking).run [] s σ H D (I.toTry _) h) (fun f s1 hsp => ?_) (fun e s1 he => he))
  · obtain ⟨a, B, sI, pq, σ', H', cls, d, rfl, J0, nb, up, sky, na, os, ag, b, hb1, hyes, hno⟩ := xx
    have J : Inv X pins σ' H' sI := J0.ofTry ok
    have sky1 : Sky B (X.env :: X.outer) a (Zc cls d) X.env.locals s'.heap := hs ▸ sky
    show wpAny (model X.prog X.w) X.A (noteFrame (.ref a) X.env) _ _ _
    refine Sky.land Zc.steady fr0 hf sky1 fun g3 F3 u3 => ?_
    have J3 : Inv X pins σ' H' { s' with heap := g3 } := J.landed nb F3.1 (up.trans u3) os ag
    obtain ⟨oq, vq, e3, z3, d3⟩ := F3.there
    have nfr : a ∉ frs (X.env :: X.outer) := fun hm => by
      obtain ⟨_, o', e', q⟩ := F3.2.2.1.mem hm
      rw [e3] at e'
      cases e'
      exact q _ d3
    have aL : a ≠ X.env.locals := fun z => nfr (List.mem_filterMap.mpr ⟨X.env, List.mem_cons_self, z ▸ hf⟩)
    have aF : a ∉ X.fs := fun hm => let ⟨e, he, q⟩ := List.mem_filterMap.mp hm; nfr (List.mem_filterMap.mpr ⟨e, List.mem_cons_of_mem _ he, q⟩)
    have aI : ∀ o, sI.heap.get? a ≠ some o := fun o q => by
      have := nb a o q (by rw [hs]; exact nfr)
      rw [F3.2.1] at this
      cases this
    have S3 := J3.suite e3 d3 na aL aF
    refine wpAny_handleBy_cons (codeAny_handlers_test ?_) (by intro q; cases q)
    have LT : PySem.W.Looks (model X.prog X.w) g3 (typeOf (.ref a)) cls := fun A Q E s k q => wpAny_typeOf_ref (k _ _ e3) (z3.1.symm ▸ q)
    have LM := PySem.W.exm_one (M := model X.prog X.w) J3.kIn LT hb1
    have go : ∀ {Q E : Value → Shared → Prop}, Q c { s' with heap := g3 } → wpAny (model X.prog X.w) (X.A.mark (some (.ref a))) (eval (.Name x np) X.env) Q E { s' with heap := g3 } := fun {Q E} q => by
      obtain ⟨c1, c2, c3 | ⟨c3, c4, c5⟩⟩ := hc
      · exact ld_glob (X := X.suite a ((a, oq) :: (X.pn ++ pins))) S3 c1 c3 q c2
      · exact ld_blt (X := X.suite a ((a, oq) :: (X.pn ++ pins))) S3 c1 c3 c4 q c5 c2
    refine go (LM.here ?_)
    cases b with
    | true =>
      obtain ⟨C, rfl, hq⟩ := hyes rfl
      refine codeAny_handlers_suite_as (HandSPX.lands_againZ F3 fun g4 F4 u4 => ?_)
      have J4 : Inv X pins σ' H' { s' with heap := g4 } := J.landed nb F4.1 ((up.trans u3).trans u4) os ag
      obtain ⟨oe, ve, e4, z4, d4⟩ := F4.there
      have S4 := J4.suite e4 d4 na aL aF
      refine store_ok (X := X.suite a ((a, oe) :: (X.pn ++ pins))) (v := .ref a) S4 hN hi locN rfl (fun s5 S5 => ?_) (.inr hin)
      have il : i < σ'.length := by rw [J.len]; exact (List.getElem?_eq_some_iff.mp hi).1
      have asgn : PSs (X.suite a ((a, oe) :: (X.pn ++ pins))) [.Assign [.Name m p1] (.Name n p2) p3] _ := pss_one (ps_set hN hj (.inl hjm) (pe_var hi (.inl hin) hnd hncd) (by rfl) (.inr hjm))
      refine wpAny_mono (asgn.run [] s5 _ H' { nx := fun σ6 H6 => σ6 = (σ'.set i (some (.ref a))).set j (some (.ref a)) ∧ H6 = H', rt := fun _ _ => False } S5 ⟨.ref a, by rw [List.getElem?_set_self il], rfl, rfl⟩) (fun f s6 hsp => ?_) (fun _ _ z => False.elim z)
      cases f with
      | next =>
        obtain ⟨σ6, H6, S6, rfl, rfl⟩ := hsp
        have J6 : Inv X pins _ H6 s6 := S6.unsuite ok
        obtain ⟨e6, _⟩ := S6.pin (a, oe) (List.mem_append_left _ List.mem_cons_self)
        have n0 : X.s_0.heap.get? a = none := by
          cases q : X.s_0.heap.get? a with
          | none => rfl
          | some o =>
            obtain ⟨o', z⟩ := J.base.there a o q (by rw [hex]; exact List.not_mem_nil)
            exact absurd z (aI o')
        have J7 : Inv X pins _ (upd H6 a (rawE a C d)) s6 := track_more J6 na n0 aL (fun y cc q z => by
            obtain ⟨v, o, w, _⟩ := J.cell y cc q
            rw [z] at w
            exact aI o w) (fun p hp z => by
            obtain ⟨w, _⟩ := J.pin p hp
            rw [z] at w
            exact aI _ w) (rawE_ok e6 z4 d4)
        exact gone_ok J7 hN hi hin fun s7 J8 => ⟨_, _, J8, hq a na J.len⟩
      | brk => obtain ⟨_, _, _, z⟩ := hsp; exact z.elim
      | cont => obtain ⟨_, _, _, z⟩ := hsp; exact z.elim
      | ret u => obtain ⟨_, _, _, _, _, z⟩ := hsp; exact z.elim
    | false =>
      show wpAny _ X.A (handleBy (.ref a) X.env []) _ _ _
      refine wpAny_handleBy_nil ?_
      obtain ⟨k1, k2, k3, oe, vs, T, oT, ts', he, hz, hd, h1, hr⟩ := id F3
      have on : wpAny (model X.prog X.w) X.A (setFlight (.ref a) X.env.frame) (fun _ s4 => wpAny (model X.prog X.w) X.A (throw (.ref a) : Sem Flow) (SP X pins D) X.xe s4) X.xe { s' with heap := g3 } := by
        rw [hf]
        exact HandSPX.setFlight_upZ F3 fun g4 h4 u4 => wpAny_throw (tk _ _ ⟨a, B, sI, pins, σ', H', cls, d, rfl, J, nb, (up.trans u3).trans u4, .inr (.inr (hs ▸ h4)), na, os, ag, hno rfl⟩)
      unfold PySem.passOn
      refine wpAny_bind (wpAny_field he hd h1 ?_)
      rw [if_neg (show ¬ ((Value.ref T == Value.none) = true) by simp)]
      first
        | exact wpAny_bind (wpAny_pure (wpAny_bind on))
        | exact wpAny_bind on
  · cases f with
    | next => exact let ⟨σ1, H1, J1, q⟩ := hsp; wpAny_execs_nil ⟨σ1, H1, J1.ofTry ok, q⟩
    | brk => exact let ⟨σ1, H1, J1, q⟩ := hsp; ⟨σ1, H1, J1.ofTry ok, q⟩
    | cont => exact let ⟨σ1, H1, J1, q⟩ := hsp; ⟨σ1, H1, J1.ofTry ok, q⟩
    | ret u => exact let ⟨v, σ1, H1, J1, r, q⟩ := hsp; ⟨v, σ1, H1, J1.ofTry ok, r, q⟩
end
end Bv

namespace Bv
open PySem PySem.Spec L2 PyProof.Rows

/-! ### errors as data -/
def excD (x : Xc) : D := .dict ((.none, .str x.cls) :: x.pay.map fun p => (.str p.1, p.2))
theorem XcR.rp {c : Cz} {mg : Str → Option Value} {H H' : Hp} {x : Xc} {cls : Value} {dx : Option Addr} {a C : Addr} (h : XcR c mg H x cls dx) (em : c.mg = mg) (ec : cls = .ref C) (hl : x.pay.length ≤ 1) (e : Gr H H') (ha : H' a = some (rawE a C dx)) : Rp c H' (.ref a) (excD x) := by
  obtain ⟨C', h1, h2, h3, h4⟩ := h
  rw [ec] at h2
  cases h2
  obtain ⟨n, p⟩ := x
  match p, hl with
  | [], _ =>
    have := h3 rfl
    subst this
    exact .exc0 ha (em ▸ h1)
  | [(f, d)], _ =>
    obtain ⟨dd, v, rfl, q1, q2⟩ := h4 f d [] rfl
    exact .exc1 ha (em ▸ h1) (e _ _ q1) (q2.gr e)
/-- try: .., except X as n: m = n; behind a caught one nothing else is known -/
def stry (N i j : Nat) (ok : Str → Option Bool) (f : Env' → Res) (ρ : Env') : Res := match f ρ with
  | .xc x => match ok x.cls with
    | some true => if x.pay.length ≤ 1 ∧ j < N then .nx ((List.replicate N Sl.un).set j (.fz (excD x))) else .un
    | some false => .xc x
    | none => .un
  | r => r
section
variable {S : Sx}
theorem At.tr {X : Cx} (hX : S.At X) {W : WX} {pn : List (Addr × Obj)} {xe : Value → Shared → Prop} (tk : Takes (X.tr pn xe) W) (ps : PassesOwn (model X.prog X.w) X.A X.env xe) : Sx.At { S with W := W } (X.tr pn xe) :=
  ⟨hX.hP, hX.hw, hX.hK, hX.hmg, hX.hb, hX.hN, hX.hsc, hX.nd, hX.calm, hX.gd, hX.hr, tk, hX.fnl, fun _ => ps, fun h => hX.body h⟩
theorem ss_try {i j : Nat} {x n m : Str} {C0 : Addr} {ok : Str → Option Bool} {f : Env' → Res} {body : List Stmt} {np p1 p2 p3 pos pos' : Pos} (hb : ∀ W : WX, SemSs { S with W := W } body f) (hx : S.mg x = some (.ref C0))
    (hok : ∀ cls b C, ok cls = some b → S.mg cls = some (.ref C) → PySem.W.exmOne S.K (.ref C) (.ref C0) = some b) (hi : S.N[i]? = some n := by rfl) (hin : S.sc.names.lookup n = some .local := by rfl) (hj : S.N[j]? = some m := by rfl) (hjm : S.sc.names.lookup m = some .local := by rfl) (hij : i ≠ j := by decide)
    (hg : S.sc.names.lookup x = some .globalImplicit := by rfl) (hdb : (x == ("__debug__" : Str)) = false := by decide) (hnd : (n == ("__debug__" : Str)) = false := by decide) (hncd : (n == ("__classdict__" : Str)) = false := by decide) (hdf : S.df = true := by rfl) :
    SemS S (.Try body [.ExceptHandler (some (.Name x np)) (some n) [.Assign [.Name m p1] (.Name n p2) p3] pos'] [] [] pos) (stry S.N.length i j ok f) := by
  have hb' : ∀ W : WX, ∃ t, (∀ X, Sx.At { S with W := W } X → PSs X body t) ∧ TellsS { S with W := W } t f := fun W => (hb W).ex
  refine ⟨⟨fun Dn σ H => (Classical.choose (hb' (wKeep S.K S.N.length (.ref C0) i j S.W Dn))) Dn σ H, fun X hX => ?_, fun ρ F H0 Z σ H Dn k h => ?_⟩⟩
  · obtain ⟨b1, b2, b3⟩ := hX.body hdf
    have := ps_tryK (X := X) (x := x) (n := n) (m := m) (c := .ref C0) (i := i) (j := j) (body := body) (np := np) (p1 := p1) (p2 := p2) (p3 := p3) (pos := pos) (pos' := pos') (tb := fun W => Classical.choose (hb' W)) (Wo := S.W) b1 b2 b3 hX.nd (by rw [hX.hN]; exact hi)
      (by show X.env.scope.names.lookup n = _; rw [hX.hsc]; exact hin) (by rw [hX.hN]; exact hj) (by rw [hX.hsc]; exact hjm) hij ⟨by show X.env.scope.names.lookup x = _; rw [hX.hsc]; exact hg, hdb, .inl (by rw [hX.hmg]; exact hx)⟩ hX.tk hnd hncd
      (fun W pn xe tk ps => (Classical.choose_spec (hb' W)).1 _ (At.tr hX tk ps))
    rw [hX.hK, hX.hN] at this
    exact this
  · refine (Classical.choose_spec (hb' (wKeep S.K S.N.length (.ref C0) i j S.W Dn))).2 ρ F H0 Z σ H Dn k ?_
    unfold stry at h
    cases ef : f ρ with
    | un => rw [ef] at h; exact h
    | nx ρ' => rw [ef] at h; exact h
    | rt d => rw [ef] at h; exact h
    | bk ρ' => rw [ef] at h; exact h
    | ct ρ' => rw [ef] at h; exact h
    | xc x' =>
      rw [ef] at h
      have h : PostS S F H0 Z Dn (match ok x'.cls with | some true => if x'.pay.length ≤ 1 ∧ j < S.N.length then .nx ((List.replicate S.N.length Sl.un).set j (.fz (excD x'))) else .un | some false => .xc x' | none => .un) := h
      intro cls dx σ1 H1 e1 e2 r
      obtain ⟨C, m1, m2, _⟩ := id r
      cases eo : ok x'.cls with
      | none => rw [eo] at h; exact False.elim h
      | some b =>
        rw [eo] at h
        refine ⟨b, by rw [m2]; exact hok _ _ _ eo m1, fun hb1 => ⟨C, m2, fun a na hl => ?_⟩, fun hb1 => ?_⟩
        · subst hb1
          dsimp only at h
          split at h
          · rename_i hp
            obtain ⟨o0, k0⟩ := k
            have z1 : In Z H1 := k0.zin.gr e1
            have na' : ¬ Z a := z1.not na
            have noown : ∀ (l n : Nat) (d : D), ((List.replicate S.N.length Sl.un).set j (.fz (excD x')))[l]? ≠ some (.ow n d) := fun l n d q => by
              by_cases hjl : j = l
              · subst hjl
                rw [List.getElem?_set_self (by simp [hp.2])] at q
                cases q
              · rw [List.getElem?_set_ne hjl, List.getElem?_replicate] at q
                split at q <;> cases q
            have hzz : ∀ b, hz Z ((List.replicate S.N.length Sl.un).set j (.fz (excD x'))) (fun _ => []) [] b → Z b := fun b q => q.elim id fun ⟨l, n, d, q1, _⟩ => absurd q1 (noown l n d)
            have gr2 : Gr (hid H1 Z) (hid (upd H1 a (rawE a C dx)) (hz Z ((List.replicate S.N.length Sl.un).set j (.fz (excD x'))) (fun _ => []) [])) := (Gr.new na).hid2 hzz
            refine h _ _ ⟨fun _ => [], ⟨by simp [hl], fun l d q => ?_, fun l n d q => absurd q (noown l n d), fun l l2 n n2 d d2 q => absurd q (noown l n d), e1.trans (Gr.new na), e2.trans gr2, k0.zin⟩⟩
            have hjl : j = l := by
              by_cases hjl : j = l
              · exact hjl
              · rw [List.getElem?_set_ne hjl, List.getElem?_replicate] at q
                split at q <;> cases q
            subst hjl
            rw [List.getElem?_set_self (by simp [hp.2])] at q
            cases q
            refine ⟨.ref a, by rw [List.getElem?_set_ne hij, List.getElem?_set_self (by simp [hl, hp.2])], r.rp rfl m2 hp.1 gr2 ?_⟩
            rw [hid_no fun q => na' (hzz a q), upd_same]
          · exact False.elim h
        · subst hb1
          exact h cls dx σ1 H1 e1 e2 r

/-! ### isinstance of a caught error; its field -/
/-- what a class must say, so that its instances are asked rightly -/
structure ExcK (K : PySem.W.Frag) (C : Addr) : Prop where
  cl : (PySem.W.clsIn K C).isSome = true
  ga : PySem.W.findIn K (.ref C) "__getattribute__" = some (some (.builtin "BaseException.__getattribute__"))
  gt : PySem.W.findIn K (.ref C) "__getattr__" = some none
  sb : PySem.W.subIn K (.ref C) (.type "BaseException") = some true
  hc : PySem.W.findIn K (.ref C) "__class__" = some (some (.builtin "object.__class__"))
  sp : PySem.W.specialIn K (.builtin "object.__class__") "__get__" = some (some (.builtin "getset_descriptor.__get__"))
  tk : PySem.W.takesIn K (.builtin "object.__class__") = some true
  mr : PySem.W.mroIn K C (.type "object") = some true
  hd : PySem.W.hasDictIn K C = true
/-- an error as data, tracked: what it stands for in the heap -/
theorem exc_inst {X : Cx} {pins : List (Addr × Obj)} {σ : L2.St} {H : Hp} {s : Shared} {a C : Addr} {dx : Option Addr} (I : Inv X pins σ H s) (ha : H a = some (rawE a C dx)) (hd : dx = none ∨ ∃ dd fs, dx = some dd ∧ H dd = some (.xd fs)) :
    ∃ oe od, PySem.W.InstAt s.heap a oe C od ∧ ∀ dd fs, dx = some dd → H dd = some (.xd fs) → ∃ (o : Obj) (mA : Str → Option Value), od = some o ∧ (∀ name, PySem.W.lookIn name o = some (mA name)) ∧ ∀ f, RelO (fs.lookup f) (mA f) := by
  obtain ⟨oe, vs, e1, e2, e3⟩ := rawE_at I.hok ha
  have nc : PySem.W.notCls oe := by unfold PySem.W.notCls; rw [e3] <;> rfl
  rcases hd with rfl | ⟨dd, fs, rfl, hx⟩
  · exact ⟨oe, none, ⟨e1, e2.1, nc, by rw [e2.2]; trivial⟩, fun _ _ z => by cases z⟩
  · obtain ⟨mA, hns, hr⟩ := (show ObjOk X.prog X.w H s.heap dd (.xd fs) from I.hok dd _ hx)
    obtain ⟨od, ho, hl⟩ := lookIn_ns hns
    refine ⟨oe, some od, ⟨e1, e2.1, nc, by rw [e2.2]; exact ho⟩, fun d2 f2 q1 q2 => ?_⟩
    cases q1
    rw [hx] at q2
    cases q2
    exact ⟨od, mA, rfl, hl, hr⟩
def rIsX (K : PySem.W.Frag) : List V → Hp → VK → Prop := fun xs H Q => ∃ (a C : Addr) (dx : Option Addr) (c : V) (cv : Value) (b : Bool), xs = [.ref a, c] ∧ ClsV c cv ∧ H a = some (rawE a C dx) ∧ (dx = none ∨ ∃ dd fs, dx = some dd ∧ H dd = some (.xd fs)) ∧ ExcK K C ∧ PySem.W.kitOne K (.ref C) cv = some b ∧ Q (.bl b) H
def rIsXT (K : PySem.W.Frag) : List V → Hp → VK → Prop := fun xs H Q => ∃ (a C tp : Addr) (dx : Option Addr) (cs : List V) (us : List Value) (b : Bool), xs = [.ref a, .ref tp] ∧ H tp = some (.tup cs) ∧ Paired ClsV cs us ∧ H a = some (rawE a C dx) ∧ (dx = none ∨ ∃ dd fs, dx = some dd ∧ H dd = some (.xd fs)) ∧ ExcK K C ∧
  PySem.W.kitAny K (.ref C) us = some b ∧ Q (.bl b) H
theorem call_isX {X : Cx} : CallR X (.builtin "isinstance") (rIsX X.K) := by
  intro pins s σ H xs us Q I r h
  obtain ⟨a, C, dx, c, cv, b, rfl, k, ha, hd, T, e, q⟩ := h
  obtain ⟨u1, u2, rfl, r1, r2⟩ := vals2 r
  have e2 := k.eq r2
  subst e2
  obtain rfl : u1 = Value.ref a := r1
  obtain ⟨oe, od, J, _⟩ := exc_inst I ha hd
  exact PySem.W.kia_one (PySem.W.kitx_exc T.cl T.ga T.gt T.sb T.hc T.sp T.tk T.mr) I.kIn J e (fun z => nomatch z) fun tk => ⟨.bl b, H, I.tok tk, rfl, q⟩
theorem call_isXT {X : Cx} : CallR X (.builtin "isinstance") (rIsXT X.K) := by
  intro pins s σ H xs us Q I r h
  obtain ⟨a, C, tp, dx, cs, ws, b, rfl, hT, k, ha, hd, T, e, q⟩ := h
  obtain ⟨u1, u2, rfl, r1, r2⟩ := vals2 r
  cases (show u2 = Value.ref tp from r2)
  obtain rfl : u1 = Value.ref a := r1
  obtain ⟨oe, od, J, _⟩ := exc_inst I ha hd
  obtain ⟨_, its, rv, o, h1, h2, n, h3⟩ := (show ObjOk X.prog X.w H s.heap tp (.tup cs) from I.hok tp _ hT)
  have e3 := ClsV.all k rv
  subst e3
  obtain ⟨oc, od', dt, sl⟩ := o
  simp only at h2 h3
  subst h2 h3
  exact PySem.W.kia_tup (PySem.W.kitx_exc T.cl T.ga T.gt T.sb T.hc T.sp T.tk T.mr) I.kIn J h1 e (fun z => nomatch z) fun tk => ⟨.bl b, H, I.tok tk, rfl, q⟩
/-- the answers, by the error's class -/
def isX (tbl : List (Str × Bool)) : D → Rv D
  | .dict ((.none, .str cls) :: _) => match tbl.lookup cls with | some b => .ok (.bool b) | none => .un
  | _ => .un
def isx (tbl : List (Str × Bool)) (f : Vw → Rv D) (η : Vw) : Rv D := (f η).bind (isX tbl)
/-- a class named -/
structure ClsN (T : Wd) (x : Str) (c : V) (cv : Value) : Prop where
  cl : ClsV c cv
  ok : T.mg x = some cv ∨ (T.mg x = none ∧ bootBuiltins x = some cv ∧ x ≠ "__name__")
theorem ClsN.pe {x : Str} {c : V} {cv : Value} (h : ClsN S.toWd x c cv) {X : Cx} (hX : S.At X) {p : Pos} (hg : S.sc.names.lookup x = some .globalImplicit) (hdb : (x == ("__debug__" : Str)) = false) : PE X (.Name x p) (tC c) := by
  have hg' : Gl X x := by show X.env.scope.names.lookup x = _; rw [hX.hsc]; exact hg
  have rl : RelV c cv := by cases h.cl <;> rfl
  rcases h.ok with h1 | ⟨h1, h2, h3⟩
  · exact pe_glob hg' (by rw [hX.hmg]; exact h1) rl hdb
  · exact pe_bltn hg' (by rw [hX.hmg]; exact h1) h2 rl h3 hdb
theorem Rp.excAt {c : Cz} {H : Hp} {v : V} {cls : Str} {ds : List (D × D)} (r : Rp c H v (.dict ((.none, .str cls) :: ds))) : ∃ a C dx, v = .ref a ∧ H a = some (rawE a C dx) ∧ c.mg cls = some (.ref C) ∧ (dx = none ∨ ∃ dd fs, dx = some dd ∧ H dd = some (.xd fs)) := by
  cases r with
  | exc0 h1 h2 => exact ⟨_, _, _, rfl, h1, h2, .inl rfl⟩
  | exc1 h1 h2 h3 h4 => exact ⟨_, _, _, rfl, h1, h2, .inr ⟨_, _, rfl, h3⟩⟩
theorem isX_at {d : D} {tbl : List (Str × Bool)} : isX tbl d = .un ∨ ∃ cls ds b, d = .dict ((.none, .str cls) :: ds) ∧ tbl.lookup cls = some b ∧ isX tbl d = .ok (.bool b) := by
  unfold isX
  split
  · rename_i cls ds
    cases e : tbl.lookup cls with
    | none => exact .inl rfl
    | some b => exact .inr ⟨cls, ds, b, rfl, e, rfl⟩
  · exact .inl rfl
theorem se_isX {x : Str} {c : V} {cv : Value} {tbl : List (Str × Bool)} {e : Expr} {f : Vw → Rv D} {p1 p2 pos : Pos} (hm : S.mg "isinstance" = none) (hN : ClsN S.toWd x c cv) (ht : ∀ cls b C, tbl.lookup cls = some b → S.mg cls = some (.ref C) → ExcK S.K C ∧ PySem.W.kitOne S.K (.ref C) cv = some b) (ha : SemE S e f)
    (hg : S.sc.names.lookup ("isinstance" : Str) = some .globalImplicit := by rfl) (hgx : S.sc.names.lookup x = some .globalImplicit := by rfl) (hxd : (x == ("__debug__" : Str)) = false := by decide) (hs : ∀ env, starEach [e, .Name x p2] env = (false, eval e env) :: starEach [.Name x p2] env := by intro _; rfl)
    (hs2 : ∀ env, starEach [.Name x p2] env = (false, eval (.Name x p2) env) :: starEach [] env := by intro _; rfl) (hpl : ∀ env, (backTo pos (starEach [.Name x p2] env)).any (·.1) = false := by intro _; rfl) : SemE S (.Call (.Name "isinstance" p1) [e, .Name x p2] [] pos) (isx tbl f) := by
  obtain ⟨t, pa, qa⟩ := ha.ex
  refine ⟨⟨tCB (rIsX S.K) (tCons t (tCons (tC c) tNil)), fun X hX => ?_, fun η σ H Z Q z hη h => ?_⟩⟩
  · rw [← hX.hK]
    exact pe_callB call_isX (by show X.env.scope.names.lookup ("isinstance" : Str) = _; rw [hX.hsc]; exact hg) (by rw [hX.hmg]; exact hm) (by decide +kernel) (pa_cons (pa X hX) (pa_cons (hN.pe hX hgx hxd) pa_nil (hs2 _)) (hs _)) (by decide) (by decide) (hs _) (hpl _)
  · refine qa η σ H Z _ z hη (Post.bind h fun d v H1 _ e1 r1 h1 => ?_)
    rcases isX_at (d := d) (tbl := tbl) with e0 | ⟨cls, ds, b, rfl, e2, e3⟩
    · rw [e0] at h1; exact False.elim h1
    · rw [e3] at h1
      obtain ⟨a, C, dx, rfl, q1, q2, q3⟩ := (r1.gr (Gr.hid_le H1 Z)).excAt
      obtain ⟨k1, k2⟩ := ht _ _ _ e2 q2
      exact ⟨a, C, dx, c, cv, b, rfl, hN.cl, q1, q3, k1, k2, Post.ok (R := RE S) h1 (.bl b)⟩
/-- names of classes in a tuple -/
inductive ClsNs (T : Wd) : List Expr → List V → List Value → Prop
  | nil : ClsNs T [] [] []
  | cons {x : Str} {p : Pos} {es : List Expr} {c : V} {cs : List V} {cv : Value} {cvs : List Value} : ClsN T x c cv → ClsNs T es cs cvs → ClsNs T (.Name x p :: es) (c :: cs) (cv :: cvs)
def tCs : List V → TA
  | [] => tNil
  | c :: cs => tCons (tC c) (tCs cs)
theorem ClsNs.pa {es : List Expr} {cs : List V} {cvs : List Value} (h : ClsNs S.toWd es cs cvs) {X : Cx} (hX : S.At X) : (∀ x p, Expr.Name x p ∈ es → S.sc.names.lookup x = some .globalImplicit ∧ (x == ("__debug__" : Str)) = false) → (∀ x p r, (Expr.Name x p :: r) <:+ es → starEach (.Name x p :: r) X.env = (false, eval (.Name x p) X.env) :: starEach r X.env) → PA X es (tCs cs) := by
  induction h with
  | nil => intro _ _; exact pa_nil
  | @cons x p es c cs cv cvs h1 h2 ih =>
    intro hg hs
    obtain ⟨g1, g2⟩ := hg x p List.mem_cons_self
    exact pa_cons (h1.pe hX g1 g2) (ih (fun y q hy => hg y q (List.mem_cons_of_mem _ hy)) (fun y q r hr => hs y q r (hr.trans (List.suffix_cons _ _)))) (hs x p es (List.suffix_refl _))
theorem ClsNs.cv {T : Wd} {es : List Expr} {cs : List V} {cvs : List Value} (h : ClsNs T es cs cvs) : Paired ClsV cs cvs := by
  induction h with
  | nil => exact .nil
  | cons h1 _ ih => exact .cons h1.cl ih
theorem tCs_run {cs : List V} : ∀ {σ : L2.St} {H : Hp} {Q : List V → Hp → Prop}, Q cs H → tCs cs σ H Q := by
  induction cs with
  | nil => intro σ H Q h; exact h
  | cons c cs ih => intro σ H Q h; exact ih (Q := fun ys H' => Q (c :: ys) H') h
theorem se_isXT {es : List Expr} {cs : List V} {cvs : List Value} {tbl : List (Str × Bool)} {e : Expr} {f : Vw → Rv D} {k1 : Nat} {p1 p2 pos : Pos} (hm : S.mg "isinstance" = none) (hN : ClsNs S.toWd es cs cvs) (ht : ∀ cls b C, tbl.lookup cls = some b → S.mg cls = some (.ref C) → ExcK S.K C ∧ PySem.W.kitAny S.K (.ref C) cvs = some b) (ha : SemE S e f)
    (hgs : ∀ x p, Expr.Name x p ∈ es → S.sc.names.lookup x = some .globalImplicit ∧ (x == ("__debug__" : Str)) = false) (hss : ∀ env x p r, (Expr.Name x p :: r) <:+ es → starEach (.Name x p :: r) env = (false, eval (.Name x p) env) :: starEach r env) (hl : cs.length ≤ 1000)
    (hg : S.sc.names.lookup ("isinstance" : Str) = some .globalImplicit := by rfl) (hs : ∀ env, starEach [e, .Tuple es k1 p2] env = (false, eval e env) :: starEach [.Tuple es k1 p2] env := by intro _; rfl)
    (hs2 : ∀ env, starEach [.Tuple es k1 p2] env = (false, eval (.Tuple es k1 p2) env) :: starEach [] env := by intro _; rfl) (hpl : ∀ env, (backTo pos (starEach [.Tuple es k1 p2] env)).any (·.1) = false := by intro _; rfl) : SemE S (.Call (.Name "isinstance" p1) [e, .Tuple es k1 p2] [] pos) (isx tbl f) := by
  obtain ⟨t, pa, qa⟩ := ha.ex
  refine ⟨⟨tCB (rIsXT S.K) (tCons t (tCons (tTup (tCs cs)) tNil)), fun X hX => ?_, fun η σ H Z Q z hη h => ?_⟩⟩
  · rw [← hX.hK]
    exact pe_callB call_isXT (by show X.env.scope.names.lookup ("isinstance" : Str) = _; rw [hX.hsc]; exact hg) (by rw [hX.hmg]; exact hm) (by decide +kernel) (pa_cons (pa X hX) (pa_cons (pe_tup (hN.pa hX hgs (fun x p r => hss _ x p r))) pa_nil (hs2 _)) (hs _)) (by decide) (by decide) (hs _) (hpl _)
  · refine qa η σ H Z _ z hη (Post.bind h fun d v H1 _ e1 r1 h1 => ?_)
    rcases isX_at (d := d) (tbl := tbl) with e0 | ⟨cls, ds, b, rfl, e2, e3⟩
    · rw [e0] at h1; exact False.elim h1
    · rw [e3] at h1
      obtain ⟨a, C, dx, rfl, q1, q2, q3⟩ := (r1.gr (Gr.hid_le H1 Z)).excAt
      obtain ⟨k1, k2⟩ := ht _ _ _ e2 q2
      refine tCs_run ⟨line_ge (by omega), fun p hp => ?_⟩
      refine ⟨a, C, p, dx, cs, cvs, b, rfl, upd_same, hN.cv, (Gr.new hp) _ _ q1, q3.imp id (fun ⟨dd, fs, z1, z2⟩ => ⟨dd, fs, z1, (Gr.new hp) _ _ z2⟩), k1, k2, ?_⟩
      exact Post.ok (R := RE S) (h1.gr (Gr.new hp)) (.bl b)
/-- e.f of an error of the class c0 -/
def xfD (c0 f : Str) : D → Rv D
  | .dict [(.none, .str c), (.str g, d)] => if c = c0 ∧ g = f then .ok d else .un
  | _ => .un
def xfl (c0 n : Str) (f : Vw → Rv D) (η : Vw) : Rv D := (f η).bind (xfD c0 n)
theorem xfD_at {c0 n : Str} {d : D} : xfD c0 n d = .un ∨ ∃ y, d = .dict [(.none, .str c0), (.str n, y)] ∧ xfD c0 n d = .ok y := by
  unfold xfD
  split
  · rename_i cls g y
    by_cases e : cls = c0 ∧ g = n
    · obtain ⟨rfl, rfl⟩ := e
      exact .inr ⟨y, rfl, if_pos ⟨rfl, rfl⟩⟩
    · exact .inl (if_neg e)
  · exact .inl rfl
def tXfl (K : PySem.W.Frag) (n : Str) (te : TE) : TE := fun σ H Q => te σ H fun x H1 => ∃ (a C dd : Addr) (v : V), x = .ref a ∧ H1 a = some (rawE a C (some dd)) ∧ H1 dd = some (.xd [(n, v)]) ∧ ExcK K C ∧ PySem.W.findIn K (.ref C) n = some none ∧ Q v H1
theorem pe_xfl {X : Cx} {e : Expr} {te : TE} {pos : Pos} {n : Str} (he : PE X e te) (hb : attributeBase e n X.env (eval e X.env) = eval e X.env) : PE X (.Attribute e n pos) (tXfl X.K n te) := by
  refine ⟨fun pins s σ H Q I h => ?_⟩
  refine attr_of hb (thn (he.run pins s σ H _ I h) fun u s1 ⟨x, H1, I1, rx, a, C, dd, v, ex, ha, hx, T, hno, q⟩ => ?_)
  subst ex
  obtain rfl : u = Value.ref a := rx
  obtain ⟨oe, od, J, hj⟩ := exc_inst I1 ha (.inr ⟨dd, _, rfl, hx⟩)
  obtain ⟨o, mA, rfl, hl, hr⟩ := hj dd _ rfl hx
  obtain ⟨u, hu, ru⟩ := RelO.some_of (v := v) (o := mA n) (by have := hr n; rw [show List.lookup n [(n, v)] = some v by simp] at this; exact this)
  exact HandSPX.exc_get I1.kIn J T.ga T.gt T.sb (PySem.W.findObj_own T.hd hno rfl (by rw [hl, hu])) (handed_of ru) ⟨v, H1, I1.tok _, ru, q⟩
theorem se_xfl {e : Expr} {f : Vw → Rv D} {pos : Pos} {c0 n : Str} (ha : SemE S e f) (ht : ∀ C, S.mg c0 = some (.ref C) → ExcK S.K C ∧ PySem.W.findIn S.K (.ref C) n = some none) (hb : ∀ env, attributeBase e n env (eval e env) = eval e env := by intro _; rfl) : SemE S (.Attribute e n pos) (xfl c0 n f) := by
  obtain ⟨t, pa, qa⟩ := ha.ex
  refine ⟨⟨tXfl S.K n t, fun X hX => ?_, fun η σ H Z Q z hη h => ?_⟩⟩
  · rw [← hX.hK]
    exact pe_xfl (pa X hX) (hb _)
  · refine qa η σ H Z _ z hη (Post.bind h fun d v H1 _ e1 r1 h1 => ?_)
    rcases xfD_at (c0 := c0) (n := n) (d := d) with e0 | ⟨y, rfl, e3⟩
    · rw [e0] at h1; exact False.elim h1
    · rw [e3] at h1
      cases r1 with
      | exc1 q1 q2 q3 q4 => exact ⟨_, _, _, _, rfl, (hid_some q1).2, (hid_some q3).2, (ht _ q2).1, (ht _ q2).2, Post.ok (R := RE S) h1 q4⟩
end
end Bv

namespace Bv
open PySem PySem.Spec L2 PyProof.Rows

/-! ### raise X('..'), X without an own __init__; raise X(e), X's own __init__ calls its base's and stores e -/
structure Rais0 (T : Wd) (x : Str) : Prop where
  ex : ∃ C : Addr, T.mg x = some (.ref C) ∧ PySem.W.excIn T.K C [.type "ValueError", .type "Exception", .type "BaseException", .type "object"] "ValueError.__new__" = true ∧ PySem.W.keepIn T.K (.ref C) = true ∧
    PySem.W.subIn T.K (.ref C) (.type "BaseException") = some true ∧ PySem.W.typeIn T.K (.ref C) = some (.type "type")
section
variable {S : Sx}
theorem ss_raise0 {x m : Str} {j} {p p2 pos pos2 : Pos} (R : Rais0 S.toWd x) (hg : S.sc.names.lookup x = some .globalImplicit := by rfl) (hdb : (x == ("__debug__" : Str)) = false := by decide) :
    SemS S (.Raise (some (.Call (.Name x p) [.Constant (.str m) j p2] [] pos)) none pos2) (fun _ => .xc ⟨x, []⟩) := by
  obtain ⟨C, r1, r2, r3, r4, r5⟩ := R.ex
  refine ⟨⟨fun _ σ H => S.W (.ref C) none σ H, fun X hX => ?_, fun ρ F H0 Z σ H Dn ⟨o, k⟩ h => ?_⟩⟩
  · exact ps_raise hX.calm hX.tk (pmk_own PySem.F.excBase_ValueError (by rw [hX.hK]; exact r2) (by rw [hX.hmg]; exact r1) (by rw [hX.hK]; exact r3) (raises_own (by rw [hX.hK]; exact r4) (by rw [hX.hK]; exact r5)) (by show X.env.scope.names.lookup x = _; rw [hX.hsc]; exact hg) hdb)
  · exact h (.ref C) none σ H k.gr (k.out (Gr.refl H)) ⟨C, r1, rfl, fun _ => rfl, fun _ _ _ q => nomatch q⟩
end
/-- what an own __init__ promises that calls its base's with a text and stores what it was given -/
def spI (K : PySem.W.Frag) (f : Str) : Sp := fun vs H Q _ => ∃ (a C : Addr) (v : V), vs = [.ref a, v] ∧ OexC K C ∧ PySem.W.findIn K (.ref C) f = some none ∧ H a = some (exo a C none) ∧ ∀ dx, H dx = none → dx ≠ a → Q .non (upd (upd H dx (exd dx [(f, v)])) a (exo a C (some dx)))
/-- B.__init__(self, ..), B an own class over ValueError without an own __init__ -/
theorem pe_finit {X : Cx} {B : Str} {CB : Addr} {mc : Value} {pl : Sem Bool} {e : Expr} {es : List Expr} {ta : TA} {p1 p2 pos : Pos} (hg : Gl X B) (hm : X.mg B = some (.ref CB)) (h1 : PySem.W.specialIn X.K (.ref CB) "__getattribute__" = some (some (.builtin "type.__getattribute__")))
    (h2 : PySem.W.readsIn X.K CB mc = true) (h3 : PySem.W.findCls X.K (.ref CB) mc "__init__" = some (.val (.builtin "ValueError.__init__"))) (ha : PA X (e :: es) ta) (hdb : (B == ("__debug__" : Str)) = false := by decide)
    (hc : eval (.Call (.Attribute (.Name B p1) "__init__" p2) (e :: es) [] pos) X.env = (do
      let o ← eval (.Name B p1) X.env
      standAt p2.atName
      let (g, one) ← holding [o] (getMethod o "__init__" pl)
      callWith pos g one (backTo pos (starEach (e :: es) X.env)) (backToKw pos (keywordEach [] X.env))) := by rfl)
    (he : starEach (e :: es) X.env = (false, eval e X.env) :: starEach es X.env := by rfl) (hpl : (backTo pos (starEach es X.env)).any (·.1) = false := by rfl) :
    PE X (.Call (.Attribute (.Name B p1) "__init__" p2) (e :: es) [] pos) (tVeI X.K ta) := by
  refine ⟨fun pins s σ H Q I h => PySem.W.methodCall_KW (ld_glob I hg hm ?_ hdb) hc⟩
  refine PySem.W.method_cls I.kIn h1 (PySem.W.cls_value I.kIn h2 h3 (by decide +kernel) ?_)
  show wpAny _ _ (callWith pos (Value.builtin "ValueError.__init__") [] (backTo pos (starEach (e :: es) X.env)) []) _ _ _
  refine PyProof.Rows.callWith_method1 (thn (ha.run pos pins _ σ H _ (I.tok _) h) fun us s1 ⟨vs, H1, I1, r1, a, C, ws, ev, hl, T, ea, q⟩ => ?_) he hpl
  subst ev
  cases r1 with
  | @cons _ u _ ur ra rr =>
    obtain rfl : u = Value.ref a := ra
    have hz : ur.length ≤ sizeLine := (Paired.length rr) ▸ Nat.le_trans hl (by rw [sizeLine_eq]; decide)
    exact oinit_ok T I1 ea hz fun s' J => ⟨.non, H1, J, rfl, q⟩
structure RaisI (T : Wd) (k : Nat) (x f : Str) : Prop where
  ex : ∃ (C fI : Addr) (fd : FuncData) (ps : List Str), T.mg x = some (.ref C) ∧ OexC T.K C ∧ PySem.W.findIn T.K (.ref C) "__init__" = some (some (.ref fI)) ∧ PySem.W.typeIn T.K (.ref fI) = some (.type "function") ∧ PySem.W.findIn T.K (.ref C) f = some none ∧
    FnOk T.P T.w T.K T.mg T.base CX0 k fI fd ps (spI T.K f) ∧ Binds T.K fd ps []
def rai (x f : Str) (g : Vw → Rv D) (ρ : Env') : Res := (g (vw [] ρ)).st fun d => .xc ⟨x, [(f, d)]⟩
section
variable {S : Sx}
theorem ss_raise1 {x f : Str} {k : Nat} {e : Expr} {g : Vw → Rv D} {p pos pos2 : Pos} (R : RaisI S.toWd k x f) (he : SemE S e g) (hk : Nat.ble (k + 1) S.k = true := by rfl) (hg : S.sc.names.lookup x = some .globalImplicit := by rfl) (hdb : (x == ("__debug__" : Str)) = false := by decide)
    (hs : ∀ env, starEach [e] env = (false, eval e env) :: starEach [] env := by intro _; rfl) (hpl : ∀ env, (backTo pos (starEach [] env)).any (·.1) = false := by intro _; rfl) :
    SemS S (.Raise (some (.Call (.Name x p) [e] [] pos)) none pos2) (rai x f g) := by
  obtain ⟨C, fI, fd, ps, r1, r2, r3, r4, r5, r6, r7⟩ := R.ex
  obtain ⟨t, pe, qe⟩ := he.ex
  refine ⟨⟨fun _ σ H => tMkO C (spI S.K f) [] (tCons t tNil) σ H fun cls d H' => S.W cls d σ H', fun X hX => ?_, fun ρ F H0 Z σ H Dn ⟨o, k⟩ h => ?_⟩⟩
  · refine ps_raise hX.calm hX.tk (pmk_oex (CX := CX0) (by rw [hX.hK]; exact r2) (by rw [hX.hK]; exact r3) (by rw [hX.hK]; exact r4) (by rw [hX.hP, hX.hw, hX.hK, hX.hmg, hX.hb]; exact r6) (hX.hr.mono (Nat.le_of_ble_eq_true hk)) (by rw [hX.hK]; exact r7) .nil pass0
      (by show X.env.scope.names.lookup x = _; rw [hX.hsc]; exact hg) (by rw [hX.hmg]; exact r1) (pa_cons (pe X hX) pa_nil (hs _)) hdb (hs _) (hpl _))
  · refine qe (vw [] ρ) σ H (hz Z ρ o []) _ k.hin k.view ?_
    unfold rai at h
    cases ef : g (vw [] ρ) with
    | un => rw [ef] at h; exact h
    | xc x' => rw [ef] at h; exact fun cls dx H' e q => h cls dx σ H' (k.gr.trans e) (k.out e) (q.gr ((Gr.refl H').hid2 fun a z => .inl z))
    | ok d =>
      rw [ef] at h
      intro v H1 e1 r
      refine ⟨by simp, fun a na => ⟨a, C, v, rfl, r2, r5, upd_same, fun dx nd hne => ⟨rfl, dx, [(f, v)], upd_same, by rw [upd_ne hne, upd_same], by rw [upd_ne hne] at nd; exact nd, ?_⟩⟩⟩
      rw [upd_ne hne] at nd
      have eH : upd (L2.del (upd (upd (upd H1 a (exo a C none)) dx (exd dx [(f, v)])) a (exo a C (some dx))) a) dx (.xd [(f, v)]) = upd H1 dx (.xd [(f, v)]) := by
        funext b
        by_cases hb : b = dx
        · subst hb; rw [upd_same, upd_same]
        · rw [upd_ne hb, upd_ne hb]
          by_cases hba : b = a
          · subst hba; rw [del_same, na]
          · rw [del_ne hba, upd_ne hba, upd_ne hb, upd_ne hba]
      rw [eH]
      have e2 : Gr H (upd H1 dx (.xd [(f, v)])) := e1.trans (Gr.new nd)
      refine h (.ref C) (some dx) σ _ (k.gr.trans e2) (k.out e2) ⟨C, r1, rfl, (fun q => by cases q), fun f' d' r' q => ?_⟩
      cases q
      have nz : ¬ Z dx := (k.zin.gr (k.gr.trans e1)).not nd
      refine ⟨dx, v, rfl, by rw [hid_no nz, upd_same], r.gr ?_⟩
      exact (Gr.new nd).hid2 fun b z => .inl z
end
end Bv
namespace Bv
open PySem PySem.Spec L2 PyProof.Rows
theorem tb_nil {mg : Str → Option Value} {P : Addr → Bool → Prop} : ∀ (cls : Str) (b : Bool) (C : Addr), ([] : List (Str × Bool)).lookup cls = some b → mg cls = some (.ref C) → P C b := fun _ _ _ h => by cases h
theorem tb_cons {mg : Str → Option Value} {P : Addr → Bool → Prop} {r : Str} {b : Bool} {tbl : List (Str × Bool)} (h : ∀ C, mg r = some (.ref C) → P C b) (t : ∀ cls b C, tbl.lookup cls = some b → mg cls = some (.ref C) → P C b) :
    ∀ (cls : Str) (b' : Bool) (C : Addr), ((r, b) :: tbl).lookup cls = some b' → mg cls = some (.ref C) → P C b' := fun cls b' C e q => by
  by_cases hc : cls = r
  · subst hc
    simp at e
    subst e
    exact h C q
  · rw [List.lookup_cons, show (cls == r) = false by simpa using hc] at e
    exact t cls b' C e q
theorem of_mg {mg : Str → Option Value} {r : Str} {C : Addr} {P : Addr → Prop} (h : mg r = some (.ref C)) (p : P C) : ∀ C', mg r = some (.ref C') → P C' := fun C' q => by
  rw [h] at q
  cases q
  exact p
theorem cls_hd {K : PySem.W.Frag} {C : Addr} (h : PySem.W.hasDictIn K C = true) : (PySem.W.clsIn K C).isSome = true := by
  obtain ⟨cd, q, _⟩ := PySem.W.any_some h
  rw [q]; rfl
end Bv

namespace Bv
open PySem PySem.Spec L2 PyProof.Rows

/-! ### dicts with tuples for keys -/
theorem dkey_nkey {d : D} {k : NestedKey} (h : dkey d = some k) : nkey d = some k ∧ k.depth ≤ 8 := by
  unfold dkey at h
  obtain ⟨k', e, h⟩ := Option.bind_eq_some_iff.mp h
  split at h
  · cases h; exact ⟨e, ‹_›⟩
  · cases h
section
variable {X : Cx} {pins : List (Addr × Obj)} {σ : L2.St} {H : Hp} {s : Shared}
mutual
theorem nested_of (I : Inv X pins σ H s) : ∀ {d : D} {v : V} {u : Value} {k : NestedKey}, Rp (cz X) H v d → RelV v u → nkey d = some k → NestedIs s.heap k u
  | .none, _, _, _, h, r, e => by cases h; cases e; cases (show _ = Value.none from r); exact .none
  | .bool b, _, _, _, h, r, e => by cases h; cases e; cases (show _ = Value.bool b from r); exact .bool rfl
  | .int i, _, _, _, h, r, e => by cases h; cases e; obtain ⟨t, rfl⟩ := r; exact .int i t
  | .str x, _, _, _, h, r, e => by cases h; cases e; obtain ⟨t, rfl⟩ := r; exact .text x t
  | .list _, _, _, _, _, _, e => by cases e
  | .dict _, _, _, _, _, _, e => by cases e
  | .tuple ds, _, _, _, h, r, e => by
    cases h with
    | @tup a xs _ h1 h2 =>
      cases (show _ = Value.ref a from r)
      have e : (nkeys ds).map NestedKey.tup = some _ := e
      obtain ⟨ks, e1, rfl⟩ := Option.map_eq_some_iff.mp e
      obtain ⟨its, rv, ⟨o, p1, p2, n, p3⟩, _⟩ := I.tuple h1
      exact .tup p1 p2 p3 (nesteds_of I h2 (by simpa using rv) e1)
theorem nesteds_of (I : Inv X pins σ H s) : ∀ {ds : List D} {vs : List V} {us : List Value} {ks : List NestedKey}, RpA (cz X) H vs ds → Vals vs us → nkeys ds = some ks → NestedAll s.heap ks us
  | [], _, _, _, h, r, e => by cases h; cases r; cases e; exact .nil
  | d :: ds, _, _, _, h, r, e => by
    cases h with
    | cons h1 h2 =>
      cases r with
      | cons r1 r2 =>
        have e : ((nkey d).bind fun k => (nkeys ds).map (k :: ·)) = some _ := e
        obtain ⟨k, e1, e2⟩ := Option.bind_eq_some_iff.mp e
        obtain ⟨ks, e3, rfl⟩ := Option.map_eq_some_iff.mp e2
        exact .cons (nested_of I h1 r1 e1) (nesteds_of I h2 r2 e3)
end
/-- a key, in the heap -/
theorem key_is (I : Inv X pins σ H s) {e : D} {b : Addr} {k : NestedKey} (h : Rp (cz X) H (.ref b) e) (q : dkey e = some k) : (nestedKind X.prog X.w).is s.heap k b :=
  ⟨nested_of I h rfl (dkey_nkey q).1, (dkey_nkey q).2⟩
theorem rawO_at {P : Program} {w : World} {H : Hp} {h : Heap} {a : Addr} {o : Obj} (hok : HOk P w H h) (he : H a = some (rawO a o)) : h.get? a = some o := by
  have x : ObjOk P w H h a (.ext fun h => h.get? a = some o) := hok a _ he
  exact x.1
theorem rawO_ok {P : Program} {w : World} {H : Hp} {h : Heap} {a : Addr} {o : Obj} (he : h.get? a = some o) : ObjOk P w H h a (rawO a o) :=
  ⟨he, ⟨o, he⟩, fun _ _ q k => k o q⟩
/-- the pairs, in values and in the model's words -/
abbrev EnR : NestedKey × Addr × V → NestedKey × Addr × Value → Prop := fun x u => x.1 = u.1 ∧ x.2.1 = u.2.1 ∧ RelV x.2.2 u.2.2
theorem keys_is (I : Inv X pins σ H s) : ∀ {xs : List (NestedKey × Addr × V)} {us : List (NestedKey × Addr × Value)} {ds : List (D × D)}, RpN (cz X) H xs ds → Paired EnR xs us → ∀ u ∈ us, (nestedKind X.prog X.w).is s.heap u.1 u.2.1
  | _, _, [], h, p, u, hu => by cases h; cases p; cases hu
  | _, _, (e, d) :: ds, h, p, u, hu => by
    cases h with
    | cons h1 h2 h3 h4 =>
      cases p with
      | cons q1 q2 =>
        rcases List.mem_cons.mp hu with rfl | hu
        · rw [← q1.1, ← q1.2.1]
          exact key_is I h1 h2
        · exact keys_is I h4 q2 u hu
theorem keys_eq {xs : List (NestedKey × Addr × V)} {us : List (NestedKey × Addr × Value)} (p : Paired EnR xs us) : us.map (·.1) = xs.map (·.1) := by
  induction p with
  | nil => rfl
  | cons h _ ih => rw [List.map_cons, List.map_cons, ih, h.1]
/-- the dict, as the model's rules have it -/
theorem dn_of {a : Addr} {o : Obj} {xs : List (NestedKey × Addr × V)} {ds : List (D × D)} (I : Inv X pins σ H s) (ha : H a = some (rawO a o)) (hn : DN (cz X) a o xs) (hr : RpN (cz X) H xs ds) :
    ∃ us, Paired EnR xs us ∧ s.heap.DictOfH (nestedKind X.prog X.w) a us := by
  obtain ⟨es, ep, us, h1, h2, h3⟩ := hn.en
  exact ⟨us, h2, o, es, ep, rawO_at I.hok ha, hn.ed, h1, h3, keys_is I hr h2, by rw [keys_eq h2]; exact hn.nd⟩
end
def lookX (xs : List (NestedKey × Addr × V)) (k : NestedKey) : Option V := (xs.find? fun x => decide (x.1 = k)).map (·.2.2)
/-- d[k], of data -/
def lookD (ds : List (D × D)) (k : NestedKey) : Option D := (ds.find? fun p => decide (dkey p.1 = some k)).map (·.2)
theorem lookX_rel {xs : List (NestedKey × Addr × V)} {us : List (NestedKey × Addr × Value)} (p : Paired EnR xs us) (k : NestedKey) : RelO (lookX xs k) ((atKey us k).map (·.2)) := by
  induction p with
  | nil => exact True.intro
  | @cons x u xs us h _ ih =>
    unfold lookX atKey at *
    rw [List.find?_cons, List.find?_cons, ← h.1]
    by_cases e : x.1 = k
    · simp only [e, decide_true, Option.map_some]
      exact h.2.2
    · simp only [e, decide_false]
      exact ih
theorem lookX_D {c : Cz} {H : Hp} : ∀ {ds : List (D × D)} {xs : List (NestedKey × Addr × V)}, RpN c H xs ds → ∀ k, match lookD ds k with | none => lookX xs k = none | some d => ∃ v, lookX xs k = some v ∧ Rp c H v d
  | [], _, h, k => by cases h; rfl
  | (e, d) :: ds, _, h, k => by
    cases h with
    | @cons k' b v vs _ _ _ h1 h2 h3 h4 =>
      unfold lookD lookX
      rw [List.find?_cons, List.find?_cons]
      by_cases q : k' = k
      · subst q
        simp only [h2, decide_true, Option.map_some]
        exact ⟨v, rfl, h3⟩
      · simp only [h2, Option.some.injEq, q, decide_false]
        exact lookX_D h4 k
theorem lookX_some {c : Cz} {H : Hp} {ds : List (D × D)} {xs : List (NestedKey × Addr × V)} (h : RpN c H xs ds) (k : NestedKey) : (lookD ds k).isSome = (lookX xs k).isSome := by
  have := lookX_D h k
  cases e : lookD ds k with
  | none => rw [e] at this; dsimp only at this; rw [this]; rfl
  | some d => rw [e] at this; obtain ⟨v, q, _⟩ := this; rw [q]; rfl
section
variable {X : Cx}
/-- k in d, k not in d (tuples for keys) -/
def rInN (c : Cz) (neg : Bool) : R2 := fun x y H Q => ∃ (a b : Addr) (o : Obj) (xs : List (NestedKey × Addr × V)) (ds : List (D × D)) (e : D) (k : NestedKey), x = .ref b ∧ y = .ref a ∧ H a = some (rawO a o) ∧ DN c a o xs ∧ RpN c H xs ds ∧ Rp c H (.ref b) e ∧ dkey e = some k ∧ Q (.bl ((lookX xs k).isSome != neg)) H
theorem room_in1 {X : Cx} (h : X.A.units + 65 < cLine) : (nestedKind X.prog X.w).room X.A.in1 := by
  show X.A.units + 1 + 8 < cLine
  omega
theorem op_inN (hu : X.A.units + 65 < cLine) : OpR X (compareOp .In) (rInN (cz X) false) := by
  intro pins s σ H x y v u Q I rx ry h
  obtain ⟨a, b, o, xs, ds, e, k, rfl, rfl, ha, hn, hr, he, hk, q⟩ := h
  obtain rfl : v = Value.ref b := rx
  obtain rfl : u = Value.ref a := ry
  obtain ⟨us, p, dd⟩ := dn_of I ha hn hr
  refine wpAny_in_heap (room_in1 hu) (key_is I he hk) hn.sm dd ⟨.bl (atKey us k).isSome, H, I.tok _, rfl, ?_⟩
  have := (lookX_rel p k).isSome_eq
  rw [Option.isSome_map] at this
  rw [← this]
  simpa using q
theorem op_notInN (hu : X.A.units + 65 < cLine) : OpR X (compareOp .NotIn) (rInN (cz X) true) := by
  intro pins s σ H x y v u Q I rx ry h
  obtain ⟨a, b, o, xs, ds, e, k, rfl, rfl, ha, hn, hr, he, hk, q⟩ := h
  obtain rfl : v = Value.ref b := rx
  obtain rfl : u = Value.ref a := ry
  obtain ⟨us, p, dd⟩ := dn_of I ha hn hr
  refine wpAny_notIn_heap (room_in1 hu) (key_is I he hk) hn.sm dd ⟨.bl (!(atKey us k).isSome), H, I.tok _, rfl, ?_⟩
  have := (lookX_rel p k).isSome_eq
  rw [Option.isSome_map] at this
  rw [← this]
  simpa using q
/-- d[k] (tuples for keys) -/
def rGetN (c : Cz) : V → V → Hp → VK → Prop := fun x y H Q => ∃ (a b : Addr) (o : Obj) (xs : List (NestedKey × Addr × V)) (ds : List (D × D)) (e : D) (k : NestedKey) (v : V), x = .ref a ∧ y = .ref b ∧ H a = some (rawO a o) ∧ DN c a o xs ∧ RpN c H xs ds ∧ Rp c H (.ref b) e ∧ dkey e = some k ∧ lookX xs k = some v ∧ Q v H
def tGetN (c : Cz) (td ty : TE) : TE := fun σ H Q => td σ H fun x H1 => ty σ H1 fun y H2 => rGetN c x y H2 Q
theorem pe_getN {o i : Expr} {td ty : TE} {pos : Pos} (hu : X.A.units + 65 < cLine) (ho : PE X o td) (hi : PE X i ty) (hs : NoSl i) : PE X (.Subscript o i pos) (tGetN (cz X) td ty) := by
  refine ⟨fun pins s σ H Q I h => ?_⟩
  refine subD_of PySem.F.slot_dict_getitem.lookup hs (thn (ho.run pins s σ H _ I h) fun u s1 ⟨x, H1, I1, rx, q1⟩ => thn (hi.run pins s1 σ H1 _ I1 q1) fun iv s2 ⟨y, H2, I2, ry, a, b, ob, xs, ds, e, k, v, ex, ey, ha, hn, hr, he, hk, hv, q⟩ => ?_)
  subst ex ey
  obtain rfl : u = Value.ref a := rx
  obtain rfl : iv = Value.ref b := ry
  obtain ⟨us, p, dd⟩ := dn_of I2 ha hn hr
  obtain ⟨uv, hq, ru⟩ := RelO.some_of (v := v) (o := (atKey us k).map (·.2)) (by rw [← hv]; exact lookX_rel p k)
  obtain ⟨pp, e1, e2⟩ := Option.map_eq_some_iff.mp hq
  refine ⟨dd.typeIs, wpAny_getItem_heap (room_in1 hu) (key_is I2 he hk) dd e1 ⟨v, H2, I2.tok _, ?_, q⟩⟩
  rw [e2]; exact ru
end
/-! stores -/
def storeX (xs : List (NestedKey × Addr × V)) (k : NestedKey) (b : Addr) (v : V) : List (NestedKey × Addr × V) := if (lookX xs k).isSome = true then xs.map (fun x => if x.1 = k then (x.1, x.2.1, v) else x) else xs ++ [(k, b, v)]
/-- d[k] = v, of data -/
def storeD (ds : List (D × D)) (k : NestedKey) (e v : D) : List (D × D) := if (lookD ds k).isSome = true then ds.map (fun p => if dkey p.1 = some k then (p.1, v) else p) else ds ++ [(e, v)]
theorem storeX_rel {xs : List (NestedKey × Addr × V)} {us : List (NestedKey × Addr × Value)} (p : Paired EnR xs us) {k : NestedKey} {b : Addr} {v : V} {u : Value} (r : RelV v u) : Paired EnR (storeX xs k b v) (storedH us k b u) := by
  have e := (lookX_rel p k).isSome_eq
  rw [Option.isSome_map] at e
  unfold storeX storedH
  rw [← e]
  split
  · rename_i z; clear z e
    induction p with
    | nil => exact .nil
    | @cons x y xs us h _ ih =>
      rw [List.map_cons, List.map_cons]
      refine .cons ?_ ih
      unfold putAt
      rw [← h.1]
      split
      · exact ⟨rfl, h.2.1, r⟩
      · exact h
  · rename_i z; clear z e
    induction p with
    | nil => exact .cons ⟨rfl, rfl, r⟩ .nil
    | cons h _ ih => exact .cons h ih
theorem storeX_len (xs : List (NestedKey × Addr × V)) (k : NestedKey) (b : Addr) (v : V) : (storeX xs k b v).length ≤ xs.length + 1 := by
  unfold storeX
  split <;> simp
theorem storeX_nd {xs : List (NestedKey × Addr × V)} (h : (xs.map (·.1)).Nodup) (k : NestedKey) (b : Addr) (v : V) : ((storeX xs k b v).map (·.1)).Nodup := by
  unfold storeX
  split
  · rw [List.map_map]
    have : ((fun x : NestedKey × Addr × V => x.1) ∘ fun x => if x.1 = k then (x.1, x.2.1, v) else x) = fun x => x.1 := by
      funext x
      dsimp only [Function.comp]
      split <;> rfl
    rw [this]
    exact h
  · rename_i hn
    rw [List.map_append, List.map_cons, List.map_nil, List.nodup_append]
    refine ⟨h, by simp, fun y hy z hz => ?_⟩
    rw [List.mem_singleton.mp hz]
    rintro rfl
    refine hn ?_
    obtain ⟨x, hx, e⟩ := List.mem_map.mp hy
    unfold lookX
    rw [Option.isSome_map, List.find?_isSome]
    exact ⟨x, hx, by simpa using e⟩
theorem storeX_rp {c : Cz} {H : Hp} {ds : List (D × D)} {xs : List (NestedKey × Addr × V)} (h : RpN c H xs ds) {k : NestedKey} {b : Addr} {v : V} {e d : D} (he : Rp c H (.ref b) e) (hk : dkey e = some k) (hv : Rp c H v d) : RpN c H (storeX xs k b v) (storeD ds k e d) := by
  have q := lookX_some h k
  unfold storeX storeD
  rw [q]
  split
  · rename_i z; clear z q
    induction ds generalizing xs with
    | nil => cases h; exact .nil
    | cons p ds ih =>
      obtain ⟨e', d'⟩ := p
      cases h with
      | @cons k' b' v' vs _ _ _ h1 h2 h3 h4 =>
        rw [List.map_cons, List.map_cons]
        by_cases e1 : k' = k
        · subst e1
          rw [if_pos rfl, if_pos h2]
          exact .cons h1 h2 hv (ih h4)
        · rw [if_neg e1, if_neg (by rw [h2]; simpa using e1)]
          exact .cons h1 h2 h3 (ih h4)
  · rename_i z; clear z q
    induction ds generalizing xs with
    | nil => cases h; exact .cons he hk hv .nil
    | cons p ds ih =>
      cases h with
      | cons h1 h2 h3 h4 => exact .cons h1 h2 h3 (ih h4)
end Bv

namespace Bv
open PySem PySem.Spec L2 PyProof.Rows

/-! ### dicts, of data -/
def keyK : D → Option Key
  | .int i => some (.inl i)
  | .str x => some (.inr x)
  | _ => none
theorem keyK_kD {e : D} {k : Key} (h : keyK e = some k) : e = kD k := by
  unfold keyK at h
  split at h <;> cases h <;> rfl
theorem kD_keyK (k : Key) : keyK (kD k) = some k := by cases k <;> rfl
def lookK (ds : List (D × D)) (k : Key) : Option D := (ds.find? fun p => decide (keyK p.1 = some k)).map (·.2)
def storeK (ds : List (D × D)) (k : Key) (v : D) : List (D × D) := if (lookK ds k).isSome = true then ds.map (fun p => if keyK p.1 = some k then (p.1, v) else p) else ds ++ [(kD k, v)]
def isTup : D → Bool
  | .tuple _ => true
  | _ => false
/-- what a dict holds at a key: none where that can't be asked -/
def dLook (e d : D) : Option (Option D) := match d with
  | .dict ((.none, .int m) :: ds) => if m = 1 then (if isTup e = true then (dkey e).map (lookD ds) else none) else if m = 0 then (keyK e).map (lookK ds) else none
  | _ => none
def dIn (e d : D) : Rv D := match dLook e d with | some o => .ok (.bool o.isSome) | none => .un
def dNotIn (e d : D) : Rv D := match dLook e d with | some o => .ok (.bool !o.isSome) | none => .un
def dGet (d e : D) : Rv D := match dLook e d with | some (some v) => .ok v | _ => .un
theorem RpK.look {c : Cz} {H : Hp} : ∀ {ds : List (D × D)} {kvs : List (Key × V)}, RpK c H kvs ds → ∀ k, match lookK ds k with | none => valV kvs k = none | some d => ∃ v, valV kvs k = some v ∧ Rp c H v d
  | [], _, h, k => by cases h; rfl
  | (e, d) :: ds, _, h, k => by
    cases h with
    | @cons k' v vs _ _ h1 h2 =>
      have ih := RpK.look h2 k
      unfold lookK valV at *
      rw [List.find?_cons, List.find?_cons, kD_keyK]
      by_cases q : k' = k
      · subst q
        simp only [decide_true, Option.map_some]
        exact ⟨v, rfl, h1⟩
      · simp only [Option.some.injEq, q, decide_false]
        exact ih
theorem RpK.lookSome {c : Cz} {H : Hp} {ds : List (D × D)} {kvs : List (Key × V)} (h : RpK c H kvs ds) (k : Key) : (lookK ds k).isSome = (valV kvs k).isSome := by
  have := h.look k
  cases e : lookK ds k with
  | none => rw [e] at this; dsimp only at this; rw [this]; rfl
  | some d => rw [e] at this; obtain ⟨v, q, _⟩ := this; rw [q]; rfl
theorem RpK.length {c : Cz} {H : Hp} : ∀ {ds : List (D × D)} {kvs : List (Key × V)}, RpK c H kvs ds → kvs.length = ds.length
  | [], _, h => by cases h; rfl
  | (e, d) :: ds, _, h => by cases h with | cons h1 h2 => simp [RpK.length h2]
theorem RpN.length {c : Cz} {H : Hp} : ∀ {ds : List (D × D)} {xs : List (NestedKey × Addr × V)}, RpN c H xs ds → xs.length = ds.length
  | [], _, h => by cases h; rfl
  | (e, d) :: ds, _, h => by cases h with | cons h1 h2 h3 h4 => simp [RpN.length h4]
theorem RpK.put {c : Cz} {H : Hp} {ds : List (D × D)} {kvs : List (Key × V)} (h : RpK c H kvs ds) {k : Key} {v : V} {d : D} (hv : Rp c H v d) : RpK c H (putK kvs k v) (storeK ds k d) := by
  have q := h.lookSome k
  unfold putK storeK
  rw [q, valV_any]
  split
  · rename_i z; clear z q
    induction ds generalizing kvs with
    | nil => cases h; exact .nil
    | cons p ds ih =>
      cases h with
      | @cons k' v' vs _ _ h1 h2 =>
        rw [List.map_cons, List.map_cons]
        by_cases e1 : k' = k
        · subst e1
          rw [if_pos rfl, if_pos (kD_keyK _)]
          exact .cons hv (ih h2)
        · rw [if_neg e1, if_neg (by rw [kD_keyK]; simpa using e1)]
          exact .cons h1 (ih h2)
  · rename_i z; clear z q
    induction ds generalizing kvs with
    | nil => cases h; exact .cons hv .nil
    | cons p ds ih => cases h with | cons h1 h2 => exact .cons h1 (ih h2)
/-- a key's value -/
theorem Rp.key {c : Cz} {H : Hp} {x : V} {e : D} {k : Key} (r : Rp c H x e) (h : keyK e = some k) : x = kV k := by
  unfold keyK at h
  split at h <;> cases h <;> cases r <;> rfl
theorem Rp.tupRef {c : Cz} {H : Hp} {x : V} {e : D} (r : Rp c H x e) (h : isTup e = true) : ∃ b, x = .ref b := by
  cases e with
  | tuple ds => cases r; exact ⟨_, rfl⟩
  | _ => cases h
section
variable {X : Cx} {S : Sx}
theorem At.cz (hX : S.At X) : Bv.cz X = S.c := by
  show (⟨X.prog, X.w, X.K, X.mg⟩ : Cz) = ⟨S.P, S.w, S.K, S.mg⟩
  rw [hX.hP, hX.hw, hX.hK, hX.hmg]
def rInK (neg : Bool) : R2 := fun x y H Q => ∃ a o, y = .ref a ∧ DGet H a x o ∧ Q (.bl (o.isSome != neg)) H
theorem op_inK (hu : X.A.units + 65 < cLine) : OpR X (compareOp .In) (rInK false) := by
  intro pins s σ H x y v u Q I rx ry h
  obtain ⟨a, o, rfl, g, q⟩ := h
  obtain rfl : u = Value.ref a := ry
  exact d_in (by omega) I g rx fun s' I' => ⟨.bl o.isSome, H, I', rfl, by simpa using q⟩
theorem op_notInK (hu : X.A.units + 65 < cLine) : OpR X (compareOp .NotIn) (rInK true) := by
  intro pins s σ H x y v u Q I rx ry h
  obtain ⟨a, o, rfl, g, q⟩ := h
  obtain rfl : u = Value.ref a := ry
  exact d_notIn (by omega) I g rx fun s' I' => ⟨.bl (!o.isSome), H, I', rfl, by simpa using q⟩
def rInA (c : Cz) (neg : Bool) : R2 := fun x y H Q => rInN c neg x y H Q ∨ rInK neg x y H Q
/-- what stands behind a look into a dict -/
theorem dLook_at {c : Cz} {H Hf : Hp} (eH : Gr H Hf) {x y : V} {e d : D} {o : Option D} (rx : Rp c H x e) (ry : Rp c H y d) (h : dLook e d = some o) :
    (∃ (a b : Addr) (ob : Obj) (xs : List (NestedKey × Addr × V)) (ds : List (D × D)) (k : NestedKey), x = .ref b ∧ y = .ref a ∧ Hf a = some (rawO a ob) ∧ DN c a ob xs ∧ RpN c H xs ds ∧ dkey e = some k ∧ lookD ds k = o) ∨
    (∃ (a : Addr) (kvs : List (Key × V)) (ds : List (D × D)) (k : Key), y = .ref a ∧ Rd Hf a (.dK kvs) ∧ RpK c H kvs ds ∧ x = kV k ∧ lookK ds k = o) := by
  unfold dLook at h
  split at h
  · rename_i m ds
    split at h
    · rename_i hm
      subst hm
      split at h
      · rename_i ht
        obtain ⟨k, e1, e2⟩ := Option.map_eq_some_iff.mp h
        obtain ⟨b, rfl⟩ := rx.tupRef ht
        cases ry with
        | dctN h1 h2 h3 => exact .inl ⟨_, b, _, _, ds, k, rfl, rfl, eH _ _ h1, h2, h3, e1, e2⟩
      · cases h
    · split at h
      · rename_i hm
        subst hm
        obtain ⟨k, e1, e2⟩ := Option.map_eq_some_iff.mp h
        cases ry with
        | dctK h1 h2 => exact .inr ⟨_, _, ds, k, rfl, eH.rd h1, h2, rx.key e1, e2⟩
      · cases h
  · cases h
theorem o2_in : Op2 S (rInA S.c false) dIn := by
  intro x y a b H Z Q σ z ra rb h
  unfold dIn at h
  cases e : dLook a b with
  | none => rw [e] at h; exact False.elim h
  | some o =>
    rw [e] at h
    rcases dLook_at (Gr.hid_le H Z) ra rb e with ⟨p, q, ob, xs, ds, k, rfl, rfl, h1, h2, h3, h4, h5⟩ | ⟨p, kvs, ds, k, rfl, h1, h2, h3, h4⟩
    · refine .inl ⟨p, q, ob, xs, ds, a, k, rfl, rfl, h1, h2, RpN.gr (Gr.hid_le H Z) h3, ra.gr (Gr.hid_le H Z), h4, ?_⟩
      rw [← lookX_some h3 k, h5]
      simpa using Post.ok (R := RE S) h (.bl _)
    · refine .inr ⟨p, valV kvs k, rfl, .inl ⟨kvs, k, h1, h3, rfl⟩, ?_⟩
      rw [← h2.lookSome k, h4]
      simpa using Post.ok (R := RE S) h (.bl _)
theorem o2_notIn : Op2 S (rInA S.c true) dNotIn := by
  intro x y a b H Z Q σ z ra rb h
  unfold dNotIn at h
  cases e : dLook a b with
  | none => rw [e] at h; exact False.elim h
  | some o =>
    rw [e] at h
    rcases dLook_at (Gr.hid_le H Z) ra rb e with ⟨p, q, ob, xs, ds, k, rfl, rfl, h1, h2, h3, h4, h5⟩ | ⟨p, kvs, ds, k, rfl, h1, h2, h3, h4⟩
    · refine .inl ⟨p, q, ob, xs, ds, a, k, rfl, rfl, h1, h2, RpN.gr (Gr.hid_le H Z) h3, ra.gr (Gr.hid_le H Z), h4, ?_⟩
      rw [← lookX_some h3 k, h5]
      simpa using Post.ok (R := RE S) h (.bl _)
    · refine .inr ⟨p, valV kvs k, rfl, .inl ⟨kvs, k, h1, h3, rfl⟩, ?_⟩
      rw [← h2.lookSome k, h4]
      simpa using Post.ok (R := RE S) h (.bl _)
variable {a b : Expr} {fa fb : Vw → Rv D} {pos : Pos}
theorem se_in (ha : SemE S a fa) (hb : SemE S b fb) (hm : behindInMarks .In b = false := by rfl) : SemE S (.Compare a [.In] [b] pos) (bi2 dIn fa fb) := se_cmp (fun X hX => by have hu := hX.units; rw [← At.cz hX]; exact (op_inN hu).or (op_inK hu)) o2_in ha hb hm
theorem st_in (ha : SemE S a fa) (hb : SemE S b fb) (hm : behindInMarks .In b = false := by rfl) : SemT S (.Compare a [.In] [b] pos) (asB (bi2 dIn fa fb)) := st_cmp (fun X hX => by have hu := hX.units; rw [← At.cz hX]; exact (op_inN hu).or (op_inK hu)) o2_in ha hb hm
theorem se_notin (ha : SemE S a fa) (hb : SemE S b fb) (hm : behindInMarks .NotIn b = false := by rfl) : SemE S (.Compare a [.NotIn] [b] pos) (bi2 dNotIn fa fb) := se_cmp (fun X hX => by have hu := hX.units; rw [← At.cz hX]; exact (op_notInN hu).or (op_notInK hu)) o2_notIn ha hb hm
theorem st_notin (ha : SemE S a fa) (hb : SemE S b fb) (hm : behindInMarks .NotIn b = false := by rfl) : SemT S (.Compare a [.NotIn] [b] pos) (asB (bi2 dNotIn fa fb)) := st_cmp (fun X hX => by have hu := hX.units; rw [← At.cz hX]; exact (op_notInN hu).or (op_notInK hu)) o2_notIn ha hb hm
/-- d[k] -/
def tGetA (c : Cz) (td ty : TE) : TE := fun σ H Q => td σ H fun x H1 => ty σ H1 fun y H2 => rGetN c x y H2 Q ∨ ∃ a v, x = .ref a ∧ DGet H2 a y (some v) ∧ Q v H2
theorem pe_getA {o i : Expr} {td ty : TE} {pos : Pos} (hu : X.A.units + 65 < cLine) (ho : PE X o td) (hi : PE X i ty) (hs : NoSl i) : PE X (.Subscript o i pos) (tGetA (cz X) td ty) := by
  refine ⟨fun pins s σ H Q I h => ?_⟩
  refine subD_of PySem.F.slot_dict_getitem.lookup hs (thn (ho.run pins s σ H _ I h) fun u s1 ⟨x, H1, I1, rx, q1⟩ => thn (hi.run pins s1 σ H1 _ I1 q1) fun iv s2 ⟨y, H2, I2, ry, q2⟩ => ?_)
  rcases q2 with ⟨a, b, ob, xs, ds, e, k, v, ex, ey, ha, hn, hr, he, hk, hv, q⟩ | ⟨a, v, ex, g, q⟩
  · subst ex ey
    obtain rfl : u = Value.ref a := rx
    obtain rfl : iv = Value.ref b := ry
    obtain ⟨us, p, dd⟩ := dn_of I2 ha hn hr
    obtain ⟨uv, hq, ru⟩ := RelO.some_of (v := v) (o := (atKey us k).map (·.2)) (by rw [← hv]; exact lookX_rel p k)
    obtain ⟨pp, e1, e2⟩ := Option.map_eq_some_iff.mp hq
    refine ⟨dd.typeIs, wpAny_getItem_heap (room_in1 hu) (key_is I2 he hk) dd e1 ⟨v, H2, I2.tok _, ?_, q⟩⟩
    rw [e2]; exact ru
  · subst ex
    obtain rfl : u = Value.ref a := rx
    exact ⟨dict_typeIs I2 g, d_getItem (by omega) I2 g ry fun w' s3 I3 rw' => ⟨v, H2, I3, rw', q⟩⟩
theorem se_get (ha : SemE S a fa) (hb : SemE S b fb) (hs : NoSl b := by intro _ _; rfl) : SemE S (.Subscript a b pos) (bi2 dGet fa fb) := by
  obtain ⟨ta, pa, qa⟩ := ha.ex
  obtain ⟨tb, pb, qb⟩ := hb.ex
  refine ⟨⟨tGetA S.c ta tb, fun X hX => ?_, fun η σ H Z Q z hη h => ?_⟩⟩
  · rw [← At.cz hX]
    exact pe_getA hX.units (pa X hX) (pb X hX) hs
  · refine qa η σ H Z _ z hη (Post.bind h fun d x H1 _ e1 r1 h1 => ?_)
    refine qb η σ H1 Z _ (z.gr e1) (hη.gr (e1.hid Z)) (Post.bind h1 fun e y H2 _ e2 r2 h2 => ?_)
    have r1 := r1.gr (e2.hid Z)
    have h2 : Post S (RE S) σ Z H2 Q (match dLook e d with | some (some v) => .ok v | _ => .un) := h2
    cases el : dLook e d with
    | none => rw [el] at h2; exact False.elim h2
    | some o =>
      cases o with
      | none => rw [el] at h2; exact False.elim h2
      | some w =>
        rw [el] at h2
        rcases dLook_at (Gr.hid_le H2 Z) r2 r1 el with ⟨p, q, ob, xs, ds, k, rfl, rfl, k1, k2, k3, k4, k5⟩ | ⟨p, kvs, ds, k, rfl, k1, k2, k3, k4⟩
        · have := lookX_D k3 k
          rw [k5] at this
          obtain ⟨v, e3, r3⟩ := this
          exact .inl ⟨p, q, ob, xs, ds, e, k, v, rfl, rfl, k1, k2, RpN.gr (Gr.hid_le H2 Z) k3, r2.gr (Gr.hid_le H2 Z), k4, e3, Post.ok (R := RE S) h2 r3⟩
        · have := k2.look k
          rw [k4] at this
          obtain ⟨v, e3, r3⟩ := this
          exact .inr ⟨p, v, rfl, .inl ⟨kvs, k, k1, k3, e3.symm⟩, Post.ok (R := RE S) h2 r3⟩
end
/-! stores into a dict of one's own -/
/-- what a store leaves of the entries -/
def putD (m : D) (ds : List (D × D)) (e v : D) : Option (List (D × D)) := match m with
  | .int 1 => if isTup e = true then (dkey e).map fun k => storeD ds k e v else none
  | .int 0 => (keyK e).map fun k => storeK ds k v
  | _ => none
def dput (j : Nat) (M : List Nat) (fk fv : Vw → Rv D) (ρ : Env') : Res := match ρ[j]? with
  | some (.ow 1 (.dict ((.none, m) :: ds))) => (fv (vw M ρ)).st fun v => (fk (vw [] ρ)).st fun e => if ds.length < 16000000 ∧ imm e = true ∧ (imm v = true ∨ M.contains j = false) then
      match putD m ds e v with | some ds' => .nx ((if imm v = true then ρ else frz M ρ).set j (.ow 1 (.dict ((.none, m) :: ds')))) | none => .un
    else .un
  | _ => .un
theorem Tree.isDict {c : Cz} {Hv H : Hp} {v : V} {m : D} {ds : List (D × D)} {U : List Addr} (t : Tree c Hv H 1 v (.dict ((.none, m) :: ds)) U) :
    ∃ a, v = .ref a ∧ U = [a] ∧ ((m = .int 0 ∧ ∃ kvs, H a = Option.some (.dK kvs) ∧ RpK c Hv kvs ds) ∨ (m = .int 1 ∧ ∃ o xs, H a = Option.some (rawO a o) ∧ DN c a o xs ∧ RpN c Hv xs ds)) := by
  have nK : ∀ {kvs : List (Key × V)} {ds : List (D × D)} {U : List Addr}, TreeK c Hv H 0 kvs ds U → U = [] ∧ RpK c Hv kvs ds := by
    intro kvs
    induction kvs with
    | nil => intro ds U h; cases h; exact ⟨rfl, .nil⟩
    | cons p kvs ih =>
      intro ds U h
      cases h with
      | cons h1 h2 h3 =>
        obtain ⟨rfl, r⟩ := ih h2
        cases h1 with
        | leaf0 q => exact ⟨rfl, .cons q r⟩
        | leaf _ q => exact ⟨rfl, .cons q r⟩
  have nN : ∀ {xs : List (NestedKey × Addr × V)} {ds : List (D × D)} {U : List Addr}, TreeN c Hv H 0 xs ds U → U = [] ∧ RpN c Hv xs ds := by
    intro xs
    induction xs with
    | nil => intro ds U h; cases h; exact ⟨rfl, .nil⟩
    | cons p xs ih =>
      intro ds U h
      cases h with
      | cons g1 g2 h1 h2 h3 =>
        obtain ⟨rfl, r⟩ := ih h2
        cases h1 with
        | leaf0 q => exact ⟨rfl, .cons g1 g2 q r⟩
        | leaf _ q => exact ⟨rfl, .cons g1 g2 q r⟩
  cases t with
  | leaf i _ => simp [imm] at i
  | dctK h1 h2 h3 => obtain ⟨rfl, r⟩ := nK h2; exact ⟨_, rfl, rfl, .inl ⟨rfl, _, h1, r⟩⟩
  | dctN h1 h2 h3 h4 => obtain ⟨rfl, r⟩ := nN h3; exact ⟨_, rfl, rfl, .inr ⟨rfl, _, _, h1, h2, r⟩⟩
theorem treeK0 {c : Cz} {Hv H : Hp} {kvs : List (Key × V)} : ∀ {ds : List (D × D)}, RpK c Hv kvs ds → TreeK c Hv H 0 kvs ds [] := by
  induction kvs with
  | nil => intro ds h; cases h; exact .nil
  | cons p kvs ih => intro ds h; cases h with | cons h1 h2 => exact .cons (U := []) (W := []) (.leaf0 h1) (ih h2) (fun a h => by cases h)
theorem treeN0 {c : Cz} {Hv H : Hp} {xs : List (NestedKey × Addr × V)} : ∀ {ds : List (D × D)}, RpN c Hv xs ds → TreeN c Hv H 0 xs ds [] := by
  induction xs with
  | nil => intro ds h; cases h; exact .nil
  | cons p xs ih => intro ds h; cases h with | cons h1 h2 h3 h4 => exact .cons (U := []) (W := []) h1 h2 (.leaf0 h3) (ih h4) (fun a h => by cases h)
theorem treeDK {c : Cz} {Hv H : Hp} {a : Addr} {kvs : List (Key × V)} {ds : List (D × D)} (h : H a = some (.dK kvs)) (r : RpK c Hv kvs ds) : Tree c Hv H 1 (.ref a) (.dict ((.none, .int 0) :: ds)) [a] := .dctK h (treeK0 r) (by simp)
theorem treeDN {c : Cz} {Hv H : Hp} {a : Addr} {o : Obj} {xs : List (NestedKey × Addr × V)} {ds : List (D × D)} (h : H a = some (rawO a o)) (q : DN c a o xs) (r : RpN c Hv xs ds) : Tree c Hv H 1 (.ref a) (.dict ((.none, .int 1) :: ds)) [a] := .dctN h q (treeN0 r) (by simp)
/-- the store's reading -/
def tPutA (c : Cz) (td ty tv : TE) : TS := fun Dn σ H => tv σ H fun v H1 => td σ H1 fun x H2 => ty σ H2 fun y H3 =>
  (∃ (a b : Addr) (o : Obj) (xs : List (NestedKey × Addr × V)) (ds : List (D × D)) (e : D) (k : NestedKey), x = .ref a ∧ y = .ref b ∧ H3 a = some (rawO a o) ∧ DN c a o xs ∧ RpN c H3 xs ds ∧ Rp c H3 (.ref b) e ∧ dkey e = some k ∧ xs.length ≤ sizeLine ∧ ∀ o', DN c a o' (storeX xs k b v) → Dn.nx σ (upd H3 a (rawO a o'))) ∨
  ∃ a H4, x = .ref a ∧ DPut H3 a y v H4 ∧ Dn.nx σ H4
section
variable {X : Cx} {S : Sx}
theorem dn_write {pins : List (Addr × Obj)} {σ : L2.St} {H : Hp} {s : Shared} {a b : Addr} {o : Obj} {xs : List (NestedKey × Addr × V)} {us : List (NestedKey × Addr × Value)} {k : NestedKey} {v : V} {u : Value} {h' : Heap} {t' : Nat} (I : Inv X pins σ H s) (ha : H a = some (rawO a o)) (hn : DN (cz X) a o xs) (p : Paired EnR xs us) (rv : RelV v u)
    (dd : h'.DictOfH (nestedKind X.prog X.w) a (storedH us k b u)) (hs : Heap.SameBut a s.heap h') : ∃ o', DN (cz X) a o' (storeX xs k b v) ∧ Inv X pins σ (upd H a (rawO a o')) { s with heap := h', toks := t' } := by
  obtain ⟨o', es, ep, hq, h2, h3, h4, _, h5⟩ := dd
  exact ⟨o', ⟨hn.sm, h2, storeX_nd hn.nd k b v, es, ep, _, h3, storeX_rel p rv, h4⟩, d_write I (by rw [ha]; exact True.intro) hs ⟨o', hq⟩ (rawO_ok hq)⟩
theorem ps_putA {o i value : Expr} {td ty tv : TE} {pos pos' : Pos} (hu : X.A.units + 65 < cLine) (ho : PE X o td) (hi : PE X i ty) (hv : PE X value tv) (hs : swapsWith value (some (.Subscript o i pos')) pos.line X.env = pure false) :
    PS X (.Assign [.Subscript o i pos'] value pos) (tPutA (cz X) td ty tv) := by
  refine ⟨fun pins s σ H D I h => ?_⟩
  refine wpAny_Assign_Subscript (thn (hv.run pins s σ H _ I h) fun r s1 ⟨v, H1, I1, rv, q1⟩ => thn (ho.run pins s1 σ H1 _ I1 q1) fun u s2 ⟨x, H2, I2, rx, q2⟩ => thn (hi.run pins s2 σ H2 _ I2 q2) fun iv s3 ⟨y, H3, I3, ry, q3⟩ => ?_) hs
  rcases q3 with ⟨a, b, ob, xs, ds, e, k, ex, ey, ha, hn, hr, he, hk, hl, q⟩ | ⟨a, H4, ex, g, q⟩
  · subst ex ey
    obtain rfl : u = Value.ref a := rx
    obtain rfl : iv = Value.ref b := ry
    obtain ⟨us, p, dd⟩ := dn_of I3 ha hn hr
    refine wpAny_setItem_heap (hsz := by rw [← Paired.length p]; exact hl) (room_in1 hu) (key_is I3 he hk) dd fun h' dd' hs' => ?_
    obtain ⟨o', k1, k2⟩ := dn_write I3 ha hn p rv dd' hs'
    exact ⟨σ, _, k2, q o' k1⟩
  · subst ex
    obtain rfl : u = Value.ref a := rx
    exact d_setItem (by omega) I3 g ry rv fun s4 I4 => ⟨σ, H4, I4, q⟩
/-- x[e] = v, x a dict of one's own -/
theorem ss_dput {j : Nat} {x : Str} {ke ve : Expr} {fk fv : Vw → Rv D} {p1 p2 pos : Pos} (M : List Nat) (hk : SemE S ke fk) (hv : SemE S ve fv) (hN : S.N[j]? = some x := by rfl) (hvis : Vis S.sc x := by first | exact Or.inl rfl | exact Or.inr (Or.inl rfl) | exact Or.inr (Or.inr rfl)) (hd : (x == ("__debug__" : Str)) = false := by decide)
    (hcd : (x == ("__classdict__" : Str)) = false := by decide) (hs : ∀ env, swapsWith ve (some (.Subscript (.Name x p1) ke p2)) pos.line env = pure false := by intro _; rfl) : SemS S (.Assign [.Subscript (.Name x p1) ke p2] ve pos) (dput j M fk fv) := by
  obtain ⟨tk, pk, qk⟩ := hk.ex
  obtain ⟨tv, pv, qv⟩ := hv.ex
  refine ⟨⟨tPutA S.c (tVar j) tk tv, fun X hX => ?_, fun ρ F H0 Z σ H Dn ⟨o, k⟩ h => ?_⟩⟩
  · rw [← At.cz hX]
    exact ps_putA hX.units (pe_var (by rw [hX.hN]; exact hN) (by rw [hX.hsc]; exact hvis) hd hcd) (pk X hX) (pv X hX) (hs _)
  unfold dput at h
  split at h
  · rename_i m ds hj
    refine qv (vw M ρ) σ H (hz Z ρ o M) _ k.hin k.view (run_e k h fun v w H1 _ k1 r1 h1 => ?_)
    obtain ⟨⟨v0, s1, tr⟩, s2⟩ := k1.ow j _ _ hj
    refine ⟨v0, s1, ?_⟩
    refine qk (vw [] ρ) σ H1 (hz Z ρ o []) _ k1.hin k1.view ?_
    cases ek : fk (vw [] ρ) with
    | un => rw [ek] at h1; exact h1
    | xc x' => rw [ek] at h1; exact fun cls dx H' e q => h1 cls dx σ H' (k1.gr.trans e) (k1.out e) (q.gr ((Gr.refl H').hid2 fun a z => .inl z))
    | ok e =>
      rw [ek] at h1
      intro kv H2 e2 r2
      have k2 := k1.grow e2
      have r1 := r1.gr (e2.hid _)
      obtain ⟨⟨v0', s1', tr'⟩, s2'⟩ := k2.ow j _ _ hj
      rw [s1] at s1'
      cases s1'
      simp only [Rv.st_ok] at h1
      split at h1
      · rename_i hc
        obtain ⟨c1, c2, c3⟩ := hc
        obtain ⟨a, rfl, hU, hD⟩ := tr'.isDict
        have hne : ∀ {ob : HO} (b : Addr), b ∉ o j → upd H2 a ob b = H2 b := fun b hb => upd_ne fun z => hb (by rw [hU, z]; exact List.mem_singleton.mpr rfl)
        -- the end: the changed dict, whatever is given up
        have fin : ∀ (ob : HO) (ds' : List (D × D)), putD m ds e v = some ds' → (∀ Hv, Gr (hid H2 (hz Z ρ o M)) Hv ∨ (imm v = true ∧ Gr (hid H2 (hz Z ρ o [])) Hv) → Gr (hid H2 (hz Z ρ o [])) Hv → Rp S.c Hv w v → Tree S.c Hv (upd H2 a ob) 1 (.ref a) (.dict ((.none, m) :: ds')) [a]) → Dn.nx σ (upd H2 a ob) := fun ob ds' e3 ht => by
          rw [e3] at h1
          refine h1 σ _ ⟨o, ?_⟩
          by_cases hm : imm v = true
          · rw [if_pos hm]
            refine k2.change hj s1 (hne (ob := ob)) fun Hv eg => ?_
            rw [hU]
            exact ht Hv (.inr ⟨hm, eg⟩) eg ((k2.imm hm r1).gr eg)
          · rw [if_neg hm]
            have cj := c3.resolve_left hm
            refine (k2.freeze M).change (frz_of hj (by simpa using cj)) s1 (hne (ob := ob)) fun Hv eg => ?_
            rw [hid_frz] at eg
            rw [hU]
            exact ht Hv (.inl eg) (((Gr.refl H2).hid2 fun a => hz_nil).trans eg) (r1.gr eg)
        have rk : Rp S.c H2 kv e := r2.gr (Gr.hid_le _ _)
        rcases hD with ⟨rfl, kvs, d1, d2⟩ | ⟨rfl, ob, xs, d1, d2, d3⟩
        · -- texts and numbers for keys
          have e3 : putD (.int 0) ds e v = (keyK e).map fun k => storeK ds k v := rfl
          cases eq : keyK e with
          | none => rw [e3, eq] at h1; exact False.elim h1
          | some kk =>
            refine .inr ⟨a, _, rfl, .inl ⟨kvs, kk, d1, r2.key eq, ?_, rfl⟩, fin _ _ (by rw [e3, eq]; rfl) fun Hv _ eg rw' => ?_⟩
            · have := d2.length
              exact Nat.lt_of_lt_of_le (show kvs.length < 16000000 by omega) (by decide)
            · exact treeDK upd_same ((RpK.gr eg d2).put rw')
        · have e3 : putD (.int 1) ds e v = if isTup e = true then (dkey e).map fun k => storeD ds k e v else none := rfl
          by_cases ht : isTup e = true
          · obtain ⟨b, rfl⟩ := r2.tupRef ht
            cases eq : dkey e with
            | none => rw [e3, if_pos ht, eq] at h1; exact False.elim h1
            | some kk =>
              have rkv := k2.imm (M := []) c2 r2
              refine .inl ⟨a, b, ob, xs, ds, e, kk, rfl, rfl, d1, d2, RpN.gr (Gr.hid_le _ _) d3, rk, eq, ?_, fun o' q' => fin _ _ (by rw [e3, if_pos ht, eq]; rfl) fun Hv _ eg rw' => ?_⟩
              · have := RpN.length d3
                exact Nat.le_trans (show xs.length ≤ 16000000 by omega) (by decide)
              · exact treeDN upd_same q' (storeX_rp (RpN.gr eg d3) (rkv.gr eg) eq rw')
          · rw [e3, if_neg ht] at h1; exact False.elim h1
      · exact False.elim h1
  · exact False.elim h
end
end Bv

namespace Bv
open PySem PySem.Spec L2 PyProof.Rows

/-! ### new dicts -/
def asgDN (i : Nat) (m : Int) (ρ : Env') : Res := if i < ρ.length then .nx (ρ.set i (.ow 1 (.dict [(.none, .int m)]))) else .un
def tDN (c : Cz) : TE := fun _ H Q => ∀ p o, H p = none → DN c p o [] → Q (.ref p) (upd H p (rawO p o))
theorem dn_new {c : Cz} {a : Addr} (h : sysModules < a) : DN c a { cls := .type "dict", data := .dict #[] } [] :=
  ⟨beq_eq_false_iff_ne.mpr (Ne.symm (Nat.ne_of_lt h)), ⟨rfl, rfl, rfl⟩, List.nodup_nil, #[], 0, [], rfl, .nil, rfl⟩
section
variable {X : Cx} {S : Sx}
theorem pe_dnN {pos : Pos} : PE X (.Dict [] [] pos) (tDN (cz X)) :=
  ⟨fun pins s σ H Q I h => wpAny_Dict_empty ⟨.ref _, _, I.laid (t' := s.toks) (o := rawO s.heap.objs.size { cls := .type "dict", data := .dict #[] }) (fun b o q => Heap.get?_push_of_some _ q) (Nat.le_refl _) (rawO_ok (Heap.get?_push_size _ rfl)), rfl, h _ _ (I.hok.fresh (Nat.le_refl _)) (dn_new I.big)⟩⟩
theorem OkAt.layD {c : Cz} {F H0 H : Hp} {Z : Addr → Prop} {ρ : Env'} {o : Nat → List Addr} {σ : L2.St} (k : OkAt c F H0 Z ρ o σ H) {i : Nat} {p : Addr} {d : D} {H' : Hp} (e0 : Gr H H') (hp : H p = none) (hi : i < ρ.length) (r : ∀ Hv, Gr (hid H (hz Z ρ o [])) Hv → Tree c Hv H' 1 (.ref p) d [p]) :
    OkAt c F H0 Z (ρ.set i (.ow 1 d)) (fun j => if j = i then [p] else o j) (σ.set i (some (.ref p))) H' :=
  k.layT e0 (fun a ha => by rw [List.mem_singleton.mp ha]; exact hp) hi fun Hv e => r Hv (Gr.trans (fun a u h => by
    obtain ⟨h1, h2⟩ := hid_some h
    have na : a ≠ p := ne_of_none h2 hp
    rw [hid_no (fun z => z.elim h1 fun z => na (List.mem_singleton.mp z))]
    exact e0 _ _ h2) e)
/-- x = {}, to be of tuples for keys -/
theorem ss_dnewN {i : Nat} {x : Str} {p1 p2 pos : Pos} (hi : S.N[i]? = some x := by rfl) (hx : L2.Loc S.sc x := by first | exact Or.inl rfl | exact Or.inr rfl) (hst : S.st x = true := by rfl) (hs : ∀ env, swapsWith (.Dict [] [] p2) (some (.Name x p1)) pos.line env = pure false := by intro _; rfl) :
    SemS S (.Assign [.Name x p1] (.Dict [] [] p2) pos) (asgDN i 1) := by
  refine ⟨⟨tAsg (tDN S.c) (gName i), fun X hX => ?_, fun ρ F H0 Z σ H Dn ⟨o, k⟩ h => fun p ob hp hn => ?_⟩⟩
  · rw [← At.cz hX]
    exact ps_set hX.nd (by rw [hX.hN]; exact hi) (by rw [hX.hsc]; exact hx) pe_dnN (hs _) (hX.fnl x hx hst)
  · unfold asgDN at h
    split at h
    · rename_i hl
      exact h _ _ ⟨_, k.layD (Gr.new hp) hp hl fun Hv _ => treeDN upd_same hn .nil⟩
    · exact False.elim h
/-- x = {}, to be of whole numbers and texts for keys -/
theorem ss_dnewK {i : Nat} {x : Str} {p1 p2 pos : Pos} (hi : S.N[i]? = some x := by rfl) (hx : L2.Loc S.sc x := by first | exact Or.inl rfl | exact Or.inr rfl) (hst : S.st x = true := by rfl) (hs : ∀ env, swapsWith (.Dict [] [] p2) (some (.Name x p1)) pos.line env = pure false := by intro _; rfl) :
    SemS S (.Assign [.Name x p1] (.Dict [] [] p2) pos) (asgDN i 0) := by
  refine ⟨⟨tAsg tDNewK (gName i), fun X hX => ?_, fun ρ F H0 Z σ H Dn ⟨o, k⟩ h => fun p hp => ?_⟩⟩
  · exact ps_set hX.nd (by rw [hX.hN]; exact hi) (by rw [hX.hsc]; exact hx) pe_dnewK (hs _) (hX.fnl x hx hst)
  · unfold asgDN at h
    split at h
    · rename_i hl
      exact h _ _ ⟨_, k.layD (Gr.new hp) hp hl fun Hv _ => treeDK upd_same .nil⟩
    · exact False.elim h
/-- {k: v} with one pair, k a tuple -/
def tD1 (c : Cz) (tk tv : TE) : TE := fun σ H Q => ∀ p o, H p = none → DN c p o [] → tk σ (upd H p (rawO p o)) fun x H1 => tv σ H1 fun y H2 =>
  ∃ (b : Addr) (e : D) (k : NestedKey), x = .ref b ∧ Rp c H2 (.ref b) e ∧ dkey e = some k ∧ H2 p = some (rawO p o) ∧ ∀ o', DN c p o' [(k, b, y)] → Q (.ref p) (upd H2 p (rawO p o'))
theorem pe_d1 {ke ve : Expr} {tk tv : TE} {pos : Pos} (hu : X.A.units + 65 < cLine) (hk : PE X ke tk) (hv : PE X ve tv)
    (hsh : (evalEachOpt [some ke] X.env).zip ((evalEach [ve] X.env).map fun w => do let y ← w; standAt pos; pure y) = (pairTrees [some ke] [ve] X.env pos).map fun q => (some q.1, q.2)) (hne : pairTrees [some ke] [ve] X.env pos ≠ []) (hl : (pairTrees [some ke] [ve] X.env pos).length ≤ 15) : PE X (.Dict [some ke] [ve] pos) (tD1 (cz X) tk tv) := by
  refine ⟨fun pins s σ H Q I q => ?_⟩
  have hn := I.hok.fresh (Nat.le_refl s.heap.objs.size)
  have I1 := I.laid (t' := s.toks) (o := rawO s.heap.objs.size { cls := .type "dict", data := .dict #[] }) (h' := s.heap.push { cls := .type "dict", data := .dict #[] }) (fun b o z => Heap.get?_push_of_some _ z) (Nat.le_refl _) (rawO_ok (Heap.get?_push_size _ rfl))
  rw [arm_eval_Dict, hsh, dictDisplay_pairs _ hne (by omega)]
  have PP : PPs X pos [some ke] [ve] [(tk, tv)] := pps_cons hk hv pps_nil
  refine wpAny_bind (wpAny_standAt (wpAny_bind (wpAny_subDictH (knd := nestedKind X.prog X.w) (by show X.A.units + 8 < cLine; omega) hl (thn (PP.run pins _ σ _ (fun ps H2 => match ps with | [(x, y)] => ∃ (b : Addr) (e : D) (k : NestedKey), x = .ref b ∧ Rp (cz X) H2 (.ref b) e ∧ dkey e = some k ∧ H2 s.heap.objs.size = some (rawO s.heap.objs.size { cls := .type "dict", data := .dict #[] }) ∧ ∀ o', DN (cz X) s.heap.objs.size o' [(k, b, y)] → Q (.ref s.heap.objs.size) (upd H2 s.heap.objs.size (rawO s.heap.objs.size o')) | _ => False) I1 ?_) fun ws s2 hh => ?_))))
  · exact q _ _ hn (dn_new I.big)
  · obtain ⟨ps, H2, I2, rel, hh⟩ := hh
    obtain ⟨x, y, rfl⟩ : ∃ x y, ps = [(x, y)] := by
      match ps, hh with
      | [(x, y)], _ => exact ⟨x, y, rfl⟩
    obtain ⟨b, e, k, rfl, re, ke', hp, q2⟩ := hh
    cases rel with
    | cons r1 r2 =>
      cases r2
      rename_i wk
      obtain ⟨wx, wy⟩ := wk
      obtain ⟨rx, ry⟩ := r1
      obtain rfl : wx = Value.ref b := rx
      refine ⟨[(k, b, wy)], ⟨rfl, rfl, key_is I2 re ke', trivial⟩, ⟨_, #[], 0, rawO_at I2.hok hp, ⟨rfl, rfl, rfl⟩, rfl, rfl, (fun _ z => by cases z), List.nodup_nil⟩, fun h' t' dd hs => wpAny_pure ?_⟩
      obtain ⟨o', es, ep, h1, h2, h3, h4, _, h5⟩ := dd
      have hd : DN (cz X) s.heap.objs.size o' [(k, b, y)] := ⟨(dn_new (c := cz X) I.big).sm, h2, by simp, es, ep, _, h3, .cons ⟨rfl, rfl, ry⟩ .nil, h4⟩
      exact ⟨.ref s.heap.objs.size, _, d_write I2 (by rw [hp]; exact True.intro) hs ⟨o', h1⟩ (rawO_ok h1), rfl, q2 o' hd⟩
end
end Bv

namespace Bv
open PySem PySem.Spec L2 PyProof.Rows

/-! ### a dict of one pair; what is taken off a list of one's own -/
def asgD1 (i : Nat) (fk fv : Vw → Rv D) (ρ : Env') : Res := (fk (vw [] ρ)).st fun e => (fv (vw [] ρ)).st fun v =>
  if i < ρ.length ∧ isTup e = true ∧ imm e = true ∧ imm v = true then match dkey e with
    | some _ => .nx (ρ.set i (.ow 1 (.dict [(.none, .int 1), (e, v)])))
    | none => .un
  else .un
section
variable {X : Cx} {S : Sx}
/-- x = {k: v}, k a tuple -/
theorem ss_dnew1 {i : Nat} {x : Str} {ke ve : Expr} {fk fv : Vw → Rv D} {p1 p2 pos : Pos} (hk : SemE S ke fk) (hv : SemE S ve fv) (hi : S.N[i]? = some x := by rfl) (hx : L2.Loc S.sc x := by first | exact Or.inl rfl | exact Or.inr rfl) (hst : S.st x = true := by rfl) (hs : ∀ env, swapsWith (.Dict [some ke] [ve] p2) (some (.Name x p1)) pos.line env = pure false := by intro _; rfl)
    (hsh : ∀ env : Env, (evalEachOpt [some ke] env).zip ((evalEach [ve] env).map fun w => do let y ← w; standAt p2; pure y) = (pairTrees [some ke] [ve] env p2).map fun q => (some q.1, q.2) := by intro _; rfl) (hne : ∀ env : Env, pairTrees [some ke] [ve] env p2 ≠ [] := by intro _ z; cases z) (hl : ∀ env : Env, (pairTrees [some ke] [ve] env p2).length ≤ 15 := by intro _; exact Nat.le_of_ble_eq_true rfl) :
    SemS S (.Assign [.Name x p1] (.Dict [some ke] [ve] p2) pos) (asgD1 i fk fv) := by
  obtain ⟨tk, pk, qk⟩ := hk.ex
  obtain ⟨tv, pv, qv⟩ := hv.ex
  refine ⟨⟨tAsg (tD1 S.c tk tv) (gName i), fun X hX => ?_, fun ρ F H0 Z σ H Dn ⟨o, k⟩ h => fun p ob hp hn => ?_⟩⟩
  · rw [← At.cz hX]
    exact ps_set hX.nd (by rw [hX.hN]; exact hi) (by rw [hX.hsc]; exact hx) (pe_d1 hX.units (pk X hX) (pv X hX) (hsh _) (hne _) (hl _)) (hs _) (hX.fnl x hx hst)
  · have k1 := k.grow (Gr.new (o := rawO p ob) hp)
    have eq0 : upd H p (rawO p ob) p = some (rawO p ob) := upd_same
    generalize eH1 : upd H p (rawO p ob) = H1 at *
    have g1 : Gr H H1 := eH1 ▸ Gr.new hp
    refine qk (vw [] ρ) σ H1 (hz Z ρ o []) _ k1.hin k1.view (run_eg k1 h fun e kv H2 _ g2 k2 r2 h2 => ?_)
    refine qv (vw [] ρ) σ H2 (hz Z ρ o []) _ k2.hin k2.view (run_eg k2 h2 fun d v H3 _ g3 k3 r3 h3 => ?_)
    split at h3
    · rename_i hc
      obtain ⟨c1, c2, c3, c4⟩ := hc
      cases ek : dkey e with
      | none => rw [ek] at h3; exact False.elim h3
      | some kk =>
        rw [ek] at h3
        obtain ⟨b, rfl⟩ := r2.tupRef c2
        have r2 := r2.gr (g3.hid (hz Z ρ o []))
        have hp3 : H3 p = some (rawO p ob) := g3 _ _ (g2 _ _ eq0)
        refine ⟨b, e, kk, rfl, r2.gr (Gr.hid_le _ _), ek, hp3, fun o' hd => ?_⟩
        have nT : ∀ a, (hz Z ρ o [] a ∨ a ∈ [p]) → hz Z ρ o [] a ∨ NotT (H3 a) := fun a z => z.imp id fun z => by
          rw [List.mem_singleton.mp z, hp3]
          exact fun xs => ⟨fun q => rawO_tup (Option.some.inj q), fun oo q => rawO_frz (Option.some.inj q)⟩
        have gf : Gr (hid H3 fun a => hz Z ρ o [] a ∨ a ∈ [p]) (hid (upd H3 p (rawO p o')) fun a => hz Z ρ o [] a ∨ a ∈ [p]) := fun a u q => by
          obtain ⟨q1, q2⟩ := hid_some q
          have na : a ≠ p := fun z => q1 (.inr (by rw [z]; exact List.mem_singleton.mpr rfl))
          rw [hid_no q1, upd_ne na]
          exact q2
        refine h3 _ _ ⟨_, k.layT (U := [p]) (fun a u q => ?_) (fun a ha => by rw [List.mem_singleton.mp ha]; exact hp) c1 fun Hv eg => ?_⟩
        · rw [upd_ne (ne_of_none q hp)]
          exact g3 _ _ (g2 _ _ (g1 _ _ q))
        · exact treeDN upd_same hd (.cons ((Rp.un nT c3 r2).gr (gf.trans eg)) ek ((Rp.un nT c4 r3).gr (gf.trans eg)) .nil)
    · exact False.elim h3
theorem TreeA.leaf {c : Cz} {Hv H : Hp} {vs : List V} : ∀ {ds : List D} {U : List Addr}, TreeA c Hv H 0 vs ds U → U = [] ∧ RpA c Hv vs ds := by
  induction vs with
  | nil => intro ds U h; cases h; exact ⟨rfl, .nil⟩
  | cons p vs ih =>
    intro ds U h
    cases h with
    | cons h1 h2 h3 =>
      obtain ⟨rfl, r⟩ := ih h2
      cases h1 with
      | leaf0 q => exact ⟨rfl, .cons q r⟩
      | leaf _ q => exact ⟨rfl, .cons q r⟩
theorem RpA.len {c : Cz} {H : Hp} {vs : List V} : ∀ {ds : List D}, RpA c H vs ds → vs.length = ds.length := by
  induction vs with
  | nil => intro ds h; cases h; rfl
  | cons v vs ih => intro ds h; cases h with | cons h1 h2 => simp [ih h2]
theorem RpA.last {c : Cz} {H : Hp} {vs : List V} : ∀ {ds : List D} {d : D}, RpA c H vs (ds ++ [d]) → ∃ ws w, vs = ws ++ [w] ∧ RpA c H ws ds ∧ Rp c H w d := by
  induction vs with
  | nil => intro ds d h; cases ds <;> cases h
  | cons v vs ih =>
    intro ds d h
    cases ds with
    | nil => cases h with | cons h1 h2 => cases h2; exact ⟨[], v, rfl, .nil, h1⟩
    | cons e ds =>
      cases h with
      | cons h1 h2 =>
        obtain ⟨ws, w, rfl, h3, h4⟩ := ih h2
        exact ⟨v :: ws, w, rfl, .cons h1 h3, h4⟩
/-- the last one off a list of one's own -/
def popA (i j : Nat) (ρ : Env') : Res := match ρ[j]? with
  | some (.ow 1 (.list xs)) => if i < ρ.length ∧ i ≠ j then match xs.getLast? with
      | some d => .nx ((ρ.set j (.ow 1 (.list xs.dropLast))).set i (.fz d))
      | none => .un
    else .un
  | _ => .un
theorem ss_pop {i j : Nat} {x y : Str} {p1 p2 p3 p4 pos : Pos} (hi : S.N[i]? = some x := by rfl) (hx : L2.Loc S.sc x := by first | exact Or.inl rfl | exact Or.inr rfl) (hst : S.st x = true := by rfl) (hN : S.N[j]? = some y := by rfl) (hv : Vis S.sc y := by first | exact Or.inl rfl | exact Or.inr (Or.inl rfl) | exact Or.inr (Or.inr rfl)) (hd : (y == ("__debug__" : Str)) = false := by decide)
    (hcd : (y == ("__classdict__" : Str)) = false := by decide) (hbase : ∀ env, attributeBase (.Name y p1) "pop" env (eval (.Name y p1) env) = eval (.Name y p1) env := by intro _; rfl) (hline : (p2.endLine == p3.line) = true := by rfl)
    (hs : ∀ env, swapsWith (.Call (.Attribute (.Name y p1) "pop" p2) [] [] p3) (some (.Name x p4)) pos.line env = pure false := by intro _; rfl) : SemS S (.Assign [.Name x p4] (.Call (.Attribute (.Name y p1) "pop" p2) [] [] p3) pos) (popA i j) := by
  refine ⟨⟨tAsg (tBM0 S.K "list" rPop (tVar j)) (gName i), fun X hX => ?_, fun ρ F H0 Z σ H Dn ⟨o, k⟩ h => ?_⟩⟩
  · rw [← hX.hK]
    exact ps_set hX.nd (by rw [hX.hN]; exact hi) (by rw [hX.hsc]; exact hx) (pe_bm0 PySem.F.plainAttrs_list PySem.F.slot_list_pop PySem.F.type_list_pop mt_pop (pe_var (by rw [hX.hN]; exact hN) (by rw [hX.hsc]; exact hv) hd hcd) (hbase _) hline) (hs _) (hX.fnl x hx hst)
  have h : PostS S F H0 Z Dn (match ρ[j]? with | some (.ow 1 (.list xs)) => if i < ρ.length ∧ i ≠ j then match xs.getLast? with | some d => .nx ((ρ.set j (.ow 1 (.list xs.dropLast))).set i (.fz d)) | none => .un else .un | _ => .un) := h
  split at h
  · rename_i xs hj
    split at h
    · rename_i hc
      obtain ⟨c1, c2⟩ := hc
      cases el : xs.getLast? with
      | none => rw [el] at h; exact False.elim h
      | some d =>
        rw [el] at h
        have ex : xs = xs.dropLast ++ [d] := by
          have hne : xs ≠ [] := fun z => by rw [z] at el; cases el
          rw [List.getLast?_eq_some_getLast hne] at el
          cases el
          exact (List.dropLast_concat_getLast hne).symm
        obtain ⟨⟨v0, s1, tr⟩, s2⟩ := k.ow j _ _ hj
        obtain ⟨a, vs, W, rfl, hU, s4, s5, s6⟩ := tr.isL
        obtain ⟨rfl, r⟩ := TreeA.leaf s5
        rw [ex] at r
        obtain ⟨ws, w, rfl, r1, r2⟩ := RpA.last r
        refine ⟨_, s1, .inl ⟨rfl, _, .inl (.inl s4)⟩, a, ws ++ [w], w, rfl, rfl, s4, by simp, ?_⟩
        have hne : ∀ b, b ∉ o j → upd H a (.lst ws) b = H b := fun b hb => upd_ne fun z => hb (by rw [hU, z]; exact List.mem_cons_self)
        have k2 := (k.keep (F' := hid H (hz Z ρ o [])) (Gr.refl _)).change hj s1 hne (d := .list xs.dropLast) (H' := upd H a (.lst ws)) fun Hv eg => by
          rw [hU]
          exact .lst upd_same (TreeA.leaves (RpA.gr eg r1)) (by simp)
        have r2 := r2.gr k2.fr
        have k3 := k2.keep (F' := F) (k.fr.trans k2.fr)
        show Dn.nx _ (upd H a (.lst (ws ++ [w]).dropLast))
        rw [List.dropLast_concat]
        exact h _ _ ⟨o, k3.put r2⟩
    · exact False.elim h
  · exact False.elim h
end
end Bv


/-! ### list(reversed(a list)) -/
namespace Bv
open PySem PySem.Spec PySem.W PyProof.Rows RT
section
variable {prog : Program} {w : World} {A : Around} {E : Value → Shared → Prop} {s : Shared} {R : Result → Shared → Prop}
theorem extend_rev {it l : Addr} {items : Array Value} (S : Addr) (res : Value) (c₀ : Nat) (hh : A.handled = none) (hit : s.heap.IsRevIter it l ((items.size : Int) - 1)) (hl : s.heap.IsList l items) (hne : l ≠ it) (hn : items.size ≤ sizeLine) (hSi : S ≠ it) (hSl : S ≠ l)
    (hS : s.heap.get? S = some { cls := .type "list", data := .seq #[] c₀ })
    (hR : ∀ s' acc' c', Moved (S :: [it]) (fun g g' => g' = g) s s' → s'.heap.get? S = some { cls := .type "list", dict := none, data := .seq acc' c', slots := #[] } → ItemsOf (fun i v => items[items.size - 1 - i]? = some v) acc' items.size → R (.ok (.ret res)) s') :
    wpAny (model prog w) A.in1 (Builtin.List.listExtendWith (.ref S) (.ref it) res)
      (fun fin s' => match fin with | .done f => R (.ok f) s' | .again c' => c'.quiet = true ∧ codeAny (model prog w) A c' R s') (fun e s' => R (.error e) s') s := by
  have W := (Walks.listRev (prog := prog) (w := w) (A := A.in1) hh it l hne items).toS
  have hSf : S ∉ [it, l] := by simp only [List.mem_cons, List.not_mem_nil, or_false, not_or]; exact ⟨hSi, hSl⟩
  have hT : s.TypeIs (.ref it) "list_reverseiterator" := hit.typeIs
  have h1 : Builtin.List.listSameRef (.ref S) (.ref it) = false := by simp [Builtin.List.listSameRef, hSi]
  unfold Builtin.List.listExtendWith
  refine wpAny_bind (wpAny_typeOf hT ?_)
  rw [if_neg (by rw [h1]; decide)]
  refine wpAny_bind (wpAny_pyIter_revIter hit ?_)
  refine wpAny_bind (wpAny_holding ?_)
  unfold Builtin.List.listLengthHint
  refine wpAny_bind (wpAny_specialOf hT nolen_lri ?_)
  show wpAny _ A.in1 (specialOf (Value.ref it) (Str.ofString "__length_hint__") >>= _) _ _ _
  refine wpAny_bind (wpAny_specialOf hT hint_lri ?_)
  generalize hid : ("list_reverseiterator.__length_hint__" : String) = id0
  wp_delta
  rw [show splitId id0 = some ("list_reverseiterator", "__length_hint__") from by subst hid; decide +kernel]
  subst hid
  refine wpAny_bind (wpAny_isInstance (b := true) hT (by rw [isSubtype_type]; kernel_rfl) ?_)
  refine wpAny_pure ?_
  rw [if_neg (by decide)]
  have e0 : ((items.size : Nat) : Int) - 1 - ((0 : Nat) : Int) = (items.size : Int) - 1 := by omega
  refine wpAny_pure ⟨plainId_quiet F.plain_extend_loop _, codeAny_extend_loopS W hn _ hSf _ items.size 0 _ _ _ rfl (Nat.zero_le _) ⟨Nat.zero_le _, by rw [e0]; exact hit, hl⟩ hS (ItemsOf.nil _) fun s' acc' c' hm hS' hacc => ?_⟩
  exact hR s' acc' c' hm hS' hacc
theorem list_init_rev {it l : Addr} {items : Array Value} (S : Addr) (hh : A.handled = none) (hit : s.heap.IsRevIter it l ((items.size : Int) - 1)) (hl : s.heap.IsList l items) (hne : l ≠ it) (hn : items.size ≤ sizeLine) (hSi : S ≠ it) (hSl : S ≠ l)
    (hS : s.heap.get? S = some { cls := .type "list", data := .seq #[] })
    (hR : ∀ s' acc' c', Moved (S :: [it]) (fun g g' => g' = g) s s' → s'.heap.get? S = some { cls := .type "list", dict := none, data := .seq acc' c', slots := #[] } → ItemsOf (fun i v => items[items.size - 1 - i]? = some v) acc' items.size → R (.ok (.ret .none)) s') :
    wpAny (model prog w) A.in1 (Builtin.«list.__init__» ⟨[.ref S, .ref it], []⟩)
      (fun fin s' => match fin with | .done f => R (.ok f) s' | .again c' => c'.quiet = true ∧ codeAny (model prog w) A c' R s') (fun e s' => R (.error e) s') s := by
  show wpAny _ A.in1 (do let old ← Builtin.List.listItems (.ref S); Builtin.List.listUpdate (.ref S) (fun _ => #[]); letGo old.toList.reverse; Builtin.List.listExtendWith (.ref S) (.ref it) .none) _ _ s
  refine wpAny_bind ?_
  unfold Builtin.List.listItems
  refine wpAny_bind (wpAny_seqItems hS rfl (wpAny_pure ?_))
  show wpAny _ A.in1 (updateSeq S (fun _ => #[]) >>= fun _ => letGo (#[] : Array Value).toList.reverse >>= fun _ => Builtin.List.listExtendWith (.ref S) (.ref it) .none) _ _ s
  refine wpAny_bind (wpAny_updateSeq hS rfl ?_)
  have hS₂ := Heap.get?_update_self (Obj.mapSeq (fun _ => (#[] : Array Value))) hS rfl
  have oth : ∀ b o, b ≠ S → s.heap.get? b = some o → (s.heap.update S (Obj.mapSeq (fun _ => (#[] : Array Value)))).get? b = some o :=
    fun b o hb e => (Heap.get?_update_other _ _ (Ne.symm hb)).trans e
  refine wpAny_bind (wpAny_letGo ?_)
  refine extend_rev S .none _ hh (hit.at fun o e => oth _ o (Ne.symm hSi) e) (hl.at fun o e => oth _ o (Ne.symm hSl) e) hne hn hSi hSl hS₂ fun s' acc' c' hm hS' hacc => ?_
  exact hR s' acc' c' (Moved.trans (G := fun g g' => g' = g) (fun _ _ _ h1 h2 => h2.trans h1) ((Moved.refl (G := fun g g' => g' = g) (fun _ => rfl)).then_heap (Nat.le_refl _) fun b o hb e => oth b o (fun h => hb (h ▸ List.mem_cons_self)) e) hm) hS' hacc
theorem call_list_rev {it l : Addr} {items : Array Value} {Q : Value → Shared → Prop} (hh : A.handled = none) (hit : s.heap.IsRevIter it l ((items.size : Int) - 1)) (hl : s.heap.IsList l items) (hne : l ≠ it) (hn : items.size ≤ sizeLine)
    (hQ : ∀ s' acc' c', Moved (s.heap.objs.size :: [it]) (fun g g' => g' = g) { s with heap := s.heap.push { cls := .type "list", data := .seq #[] } } s' →
      s'.heap.get? s.heap.objs.size = some { cls := .type "list", dict := none, data := .seq acc' c', slots := #[] } → ItemsOf (fun i v => items[items.size - 1 - i]? = some v) acc' items.size → Q (.ref s.heap.objs.size) s') :
    wpAny (model prog w) A (call (.type "list") [.ref it]) Q E s := by
  refine callType_codes (Q₁ := fun obj s₁ => obj = .ref s.heap.objs.size ∧ s₁ = { s with heap := s.heap.push { cls := .type "list", data := .seq #[] } }) F.called_list (F.typeCall_list_1 _) F.entry_list_init
    (code_list_new _ ⟨rfl, rfl⟩) fun obj s₁ h₁ => ?_
  obtain ⟨rfl, rfl⟩ := h₁
  obtain ⟨oi, hoi, _⟩ := id hit
  obtain ⟨ol, hol, _⟩ := id hl
  have hS : (s.heap.push { cls := .type "list", data := .seq #[] }).get? s.heap.objs.size = some { cls := .type "list", data := .seq #[] } := Heap.get?_push_size _ rfl
  refine ⟨⟨_, hS, rfl⟩, F.args_list_init_2 _ _, list_init_rev (A := A.in1) _ hh (hit.at fun o e => Heap.get?_push_of_some _ e) (hl.at fun o e => Heap.get?_push_of_some _ e) hne hn (Nat.ne_of_gt (Heap.lt_size hoi)) (Nat.ne_of_gt (Heap.lt_size hol)) hS fun s' acc' c' hm hS' hacc => ?_⟩
  exact ⟨rfl, hQ s' acc' c' hm hS' hacc⟩
end
end Bv

namespace Bv
open PySem PySem.Spec L2 PyProof.Rows

/-! ### list(reversed(x)), x a list -/
def tListRev (K : PySem.W.Frag) (te : TE) : TE := fun σ H Q => te σ H fun v H1 => ∃ (a : Addr) (xs : List V), v = .ref a ∧ SqL K H1 a xs ∧ ∀ q, H1 q = none → Q (.ref q) (upd H1 q (.lst xs.reverse))
section
variable {X : Cx} {S : Sx}
theorem pe_listRev {e : Expr} {te : TE} {p p2 pos pos2 : Pos} (hc : X.calm = true) (hg : Gl X "list") (hm : X.mg "list" = none) (hg2 : Gl X "reversed") (hm2 : X.mg "reversed" = none) (he : PE X e te)
    (hs : starEach [e] X.env = (false, eval e X.env) :: starEach [] X.env := by rfl)
    (hs2 : starEach [.Call (.Name "reversed" p2) [e] [] pos2] X.env = (false, eval (.Call (.Name "reversed" p2) [e] [] pos2) X.env) :: starEach [] X.env := by rfl) :
    PE X (.Call (.Name "list" p) [.Call (.Name "reversed" p2) [e] [] pos2] [] pos) (tListRev X.K te) := by
  refine ⟨fun pins s σ H Q I h => ?_⟩
  refine Call_ (ld_blt I hg hm boot_list (PyProof.Rows.callWith_type1 (args_cons (Call_ (ld_blt I hg2 hm2 PyProof.Rows.boot_reversed (PyProof.Rows.callWith_type1 (args_cons (thn (he.run pins s σ H _ I h) fun u s1 ⟨v, H1, I1, r1, q1⟩ => args_nil ?_) hs) hs rfl))) hs2) hs2 rfl))
  obtain ⟨a, xs, ev, hq, q⟩ := q1
  subst ev
  obtain rfl : u = Value.ref a := r1
  obtain ⟨its, rv, p', hz⟩ := I1.list hq
  refine call_reversed_list p'.isList (args_nil ?_)
  have hl := p'.isList
  obtain ⟨ol, hol, _⟩ := id hl
  have hne : a ≠ s1.heap.objs.size := Nat.ne_of_lt (Heap.lt_size hol)
  have hn : its.toArray.size ≤ sizeLine := by rw [List.size_toArray, ← rv.length]; exact hz
  refine call_list_rev (s := { s1 with heap := s1.heap.push (revObj a ((its.toArray.size : Int) - 1)) }) (I1.ok.hd hc) ⟨_, Heap.get?_push_size _ rfl, rfl, rfl⟩ (hl.push _) hne hn fun s' acc c' hm' hS' hi => ?_
  rw [Moved.eq_with hm']
  have hsz : (s1.heap.push (revObj a ((its.toArray.size : Int) - 1))).objs.size = s1.heap.objs.size + 1 := by rw [size_push']
  refine ⟨.ref (s1.heap.push (revObj a ((its.toArray.size : Int) - 1))).objs.size, upd H1 (s1.heap.push (revObj a ((its.toArray.size : Int) - 1))).objs.size (.lst xs.reverse), I1.laid (t' := s'.toks) (fun b o e => ?_) (by rw [hsz]; exact Nat.le_succ _) (show ObjOk X.prog X.w _ _ _ (.lst xs.reverse) from ⟨by rw [List.length_reverse]; exact hz, acc.toList, c', RT.vals_rev rv hi, by rw [Array.toArray_toList]; exact hS'⟩), rfl, q _ (I1.hok.fresh (by rw [hsz]; exact Nat.le_succ _))⟩
  have hb := Heap.lt_size e
  refine hm'.heap b o (fun hmem => ?_) (Heap.get?_push_of_some _ (Heap.get?_push_of_some _ e))
  rcases List.mem_cons.mp hmem with e' | hmem
  · rw [e', hsz] at hb; exact absurd hb (Nat.not_lt.mpr (Nat.le_succ _))
  · rw [List.mem_singleton.mp hmem] at hb; exact absurd hb (Nat.lt_irrefl _)
def dRevF : D → Rv (List D)
  | .list ds => .ok ds.reverse
  | _ => .un
def revF (f : Vw → Rv D) (η : Vw) : Rv (List D) := (f η).bind dRevF
theorem RpA.app {c : Cz} {H : Hp} {vs ws : List V} : ∀ {ds es : List D}, RpA c H vs ds → RpA c H ws es → RpA c H (vs ++ ws) (ds ++ es) := by
  induction vs with
  | nil => intro ds es h1 h2; cases h1; exact h2
  | cons v vs ih => intro ds es h1 h2; cases h1 with | cons a b => exact .cons a (ih b h2)
theorem RpA.rev {c : Cz} {H : Hp} {vs : List V} : ∀ {ds : List D}, RpA c H vs ds → RpA c H vs.reverse ds.reverse := by
  induction vs with
  | nil => intro ds h1; cases h1; exact .nil
  | cons v vs ih => intro ds h1; cases h1 with | cons a b => rw [List.reverse_cons, List.reverse_cons]; exact RpA.app (ih b) (.cons a .nil)
theorem sf_listRev {e : Expr} {f : Vw → Rv D} {p p2 pos pos2 : Pos} (hm : S.mg "list" = none) (hm2 : S.mg "reversed" = none) (he : SemE S e f) (hg : S.sc.names.lookup ("list" : Str) = some .globalImplicit := by rfl) (hg2 : S.sc.names.lookup ("reversed" : Str) = some .globalImplicit := by rfl)
    (hs : ∀ env, starEach [e] env = (false, eval e env) :: starEach [] env := by intro _; rfl)
    (hs2 : ∀ env, starEach [.Call (.Name "reversed" p2) [e] [] pos2] env = (false, eval (.Call (.Name "reversed" p2) [e] [] pos2) env) :: starEach [] env := by intro _; rfl) :
    SemF S (.Call (.Name "list" p) [.Call (.Name "reversed" p2) [e] [] pos2] [] pos) (revF f) := by
  obtain ⟨t, pa, q⟩ := he.ex
  refine ⟨⟨tListRev S.K t, fun X hX => ?_, fun η σ H Z Q z hη h => ?_⟩⟩
  · rw [← hX.hK]
    exact pe_listRev hX.calm (by show X.env.scope.names.lookup _ = _; rw [hX.hsc]; exact hg) (by rw [hX.hmg]; exact hm) (by show X.env.scope.names.lookup _ = _; rw [hX.hsc]; exact hg2) (by rw [hX.hmg]; exact hm2) (pa X hX) (hs _) (hs2 _)
  · refine q η σ H Z _ z hη (Post.bind h fun d v H1 _ e1 r1 h1 => ?_)
    cases r1 with
    | @lst a xs ds h2 h3 => exact ⟨a, xs, rfl, ((Gr.hid_le H1 Z).rdl h2).sq, fun l hl => h1 (l, _) H1 (Gr.refl H1) (RpA.rev h3) hl⟩
    | _ => exact False.elim h1

/-! ### sum of a tuple or of a list -/
def dSum : List D → Rv D
  | [.list xs] => match intsOf xs with | some ns => .ok (.int ns.sum) | none => .un
  | [.tuple xs] => match intsOf xs with | some ns => .ok (.int ns.sum) | none => .un
  | _ => .un
theorem dSum_t (ns : List Int) : dSum [.tuple (ns.map .int)] = .ok (.int ns.sum) := by
  show (match intsOf (ns.map .int) with | some ns => Rv.ok (PyData.int ns.sum) | none => .un) = _
  rw [intsOf_map]
theorem dSum_l (ns : List Int) : dSum [.list (ns.map .int)] = .ok (.int ns.sum) := by
  show (match intsOf (ns.map .int) with | some ns => Rv.ok (PyData.int ns.sum) | none => .un) = _
  rw [intsOf_map]
def rSumA (K : PySem.W.Frag) : List V → Hp → VK → Prop := fun vs H Q => ∃ (a : Addr) (ns : List Int), vs = [V.ref a] ∧ (SqL K H a (ns.map V.int) ∨ SqT K H a (ns.map V.int)) ∧ Q (.int ns.sum) H
theorem call_sumA (hc : X.calm = true) : CallR X (.builtin "sum") (rSumA X.K) := by
  intro pins s σ H vs us Q I r h
  obtain ⟨a, ns, rfl, hs | hs, q⟩ := h
  · exact cr_sum hc pins s σ H _ us Q I r ⟨a, ns, rfl, hs, q⟩
  · obtain ⟨its, rv, hl, _⟩ := I.tuple hs
    rw [Vals.ref1 r]
    have hi := rv.ints
    obtain ⟨xs, e⟩ := hi.allInts.items
    have hn : numsOf (intItems xs).toList = ns := by rw [← e]; exact hi.numsOf
    rw [nums_intItems] at hn
    have hT : s.heap.IsTuple a its.toArray := hl
    rw [e] at hT
    refine PySem.W.ktm_sumG (I.ok.hd hc) hT fun h' tk t' hk => ?_
    rw [preSum_eq, List.take_of_length_le (by simp), hn]
    exact ⟨.int _, H, I.kept hk, ⟨_, rfl⟩, q⟩
theorem on_sum : OpN S (rSumA S.K) dSum := by
  intro xs ds H Z Q σ z r h
  cases r with
  | nil => exact False.elim h
  | cons r1 r2 =>
    cases r2 with
    | cons _ _ => cases r1 <;> exact False.elim h
    | nil =>
      cases r1 with
      | @lst a vs ds h1 h2 =>
        have hh : Post S (RE S) σ Z H Q (match intsOf ds with | some ns => .ok (.int ns.sum) | none => .un) := h
        cases e : intsOf ds with
        | none => rw [e] at hh; exact False.elim hh
        | some ns =>
          rw [e] at hh
          obtain rfl := intsOf_eq e
          obtain rfl := RpA.isInts h2
          exact ⟨a, ns, rfl, .inl ((Gr.hid_le H Z).rdl h1).sq, Post.ok (R := RE S) hh (.int _)⟩
      | @tup a vs ds h1 h2 =>
        have hh : Post S (RE S) σ Z H Q (match intsOf ds with | some ns => .ok (.int ns.sum) | none => .un) := h
        cases e : intsOf ds with
        | none => rw [e] at hh; exact False.elim hh
        | some ns =>
          rw [e] at hh
          obtain rfl := intsOf_eq e
          obtain rfl := RpA.isInts h2
          exact ⟨a, ns, rfl, .inr ((Gr.hid_le H Z).sqT h1), Post.ok (R := RE S) hh (.int _)⟩
      | _ => exact False.elim h
end
end Bv


/-! ### texts in a row, any number of them -/
namespace SrtB
open SrtO hiding Str
open PySem PyProof.Rows Srt
section
variable {prog : Program} {w : World} {A : Around} {E : Value → Shared → Prop} {s : Shared}
def tv : Value → Str
  | .str x _ => x
  | _ => default
def ltTv (v u : Value) : Bool := decide ((tv v).cps.toList < (tv u).cps.toList)
theorem cps_tot {a b : List Nat} (h1 : ¬ a < b) (h2 : ¬ b < a) : a = b := List.le_antisymm (List.not_lt.mp h2) (List.not_lt.mp h1)
theorem swo_str : Swo ltTv := by
  refine ⟨fun x y h => ?_, fun x y z h1 h2 => ?_⟩
  · have a := of_decide_eq_true (p := (tv x).cps.toList < (tv y).cps.toList) h
    exact decide_eq_false (p := (tv y).cps.toList < (tv x).cps.toList) (List.lt_asymm a)
  · have a := of_decide_eq_false (p := (tv y).cps.toList < (tv x).cps.toList) h1
    have b := of_decide_eq_false (p := (tv z).cps.toList < (tv y).cps.toList) h2
    exact decide_eq_false (p := (tv z).cps.toList < (tv x).cps.toList) (List.not_lt.mpr (List.le_trans (List.not_lt.mp a) (List.not_lt.mp b)))
theorem strs_mem : ∀ {vs : List Value} {ns : List Str}, StrsAre vs ns → ∀ v ∈ vs, ∃ i t, v = Value.str i t
  | _, _, .nil, v, h => absurd h (by simp)
  | _, _, .cons n t r, v, h => by
    rcases List.mem_cons.mp h with e | h
    · exact ⟨n, t, e⟩
    · exact strs_mem r v h
theorem strs_tv : ∀ {vs : List Value}, (∀ v ∈ vs, ∃ i t, v = Value.str i t) → StrsAre vs (vs.map tv)
  | [], _ => .nil
  | v :: vs, h => by
    obtain ⟨i, t, e⟩ := h v List.mem_cons_self
    subst e
    exact .cons i t (strs_tv fun u hu => h u (List.mem_cons_of_mem _ hu))
theorem tv_strs : ∀ {vs : List Value} {ns : List Str}, StrsAre vs ns → vs.map tv = ns
  | _, _, .nil => rfl
  | _, _, .cons n t r => congrArg (n :: ·) (tv_strs r)
theorem str_cmp {vs : List Value} {ns : List Str} (hI : StrsAre vs ns) : Cmp prog w A s oneType' (fun p => p.1 ∈ vs) (lt2 ltTv) := by
  intro p q hm hm'
  obtain ⟨a, t, e⟩ := strs_mem hI _ hm
  obtain ⟨b, u, e'⟩ := strs_mem hI _ hm'
  show wpAny (model prog w) A (keyLt' oneType' p.1 q.1) (fun r s' => s' = s ∧ r = ltTv p.1 q.1) (fun _ _ => False) s
  rw [e, e', keyLt'_oneType]
  exact oneLt_str ⟨rfl, rfl⟩
theorem strs_sortable {a : Addr} {vs : List Value} {ns : List Str} (hI : StrsAre vs ns) (h2 : 2 ≤ vs.length) : SortableO prog w A s a vs ltTv := by
  intro h' _
  refine ⟨oneType', fun Q E hq => ?_, str_cmp hI⟩
  match vs, hI, h2 with
  | v1 :: v2 :: rest, hI, _ =>
    rw [keyKind_strs hI]
    exact wpAny_pure hq
  | [], _, h => exact absurd h (by decide)
  | [v], _, h => exact absurd h (by simp)
theorem strs_out {vs out : List Value} {ns : List Str} (hI : StrsAre vs ns) (hs : Srtd ltTv out) (hb : Stb ltTv out vs) : StrsAre out (out.map tv) ∧ (out.map tv).Perm ns ∧ (out.map tv).Pairwise (fun x y => ¬ y.cps.toList < x.cps.toList) := by
  refine ⟨strs_tv fun v hv => strs_mem hI v (hb.perm.mem_iff.mp hv), ?_, ?_⟩
  · have q := hb.perm.map tv
    rw [tv_strs hI] at q
    exact q
  · exact List.pairwise_map.mpr (hs.imp fun {x y} h => of_decide_eq_false (p := (tv y).cps.toList < (tv x).cps.toList) h)
end
end SrtB
namespace Bv
open PySem PySem.Spec L2 PyProof.Rows
def sortS (ns : List Str) : List Str := ns.mergeSort fun a b => !decide (b.cps.toList < a.cps.toList)
theorem sortS_perm (ns : List Str) : (sortS ns).Perm ns := List.mergeSort_perm _ _
theorem sortS_pw (ns : List Str) : (sortS ns).Pairwise (fun x y => ¬ y.cps.toList < x.cps.toList) := by
  have := List.pairwise_mergeSort (le := fun a b : Str => !decide (b.cps.toList < a.cps.toList)) (fun a b c h1 h2 => by
    simp only [Bool.not_eq_true', decide_eq_false_iff_not] at *
    exact List.not_lt.mpr (List.le_trans (List.not_lt.mp h1) (List.not_lt.mp h2))) (fun a b => by
    simp only [Bool.or_eq_true, Bool.not_eq_true', decide_eq_false_iff_not]
    by_cases q : b.cps.toList < a.cps.toList
    · exact .inr (List.lt_asymm q)
    · exact .inl q) ns
  exact this.imp fun {a b} h => by simpa using h
theorem str_tot {a b : Str} (h1 : ¬ a.cps.toList < b.cps.toList) (h2 : ¬ b.cps.toList < a.cps.toList) : a = b := by
  have := SrtB.cps_tot h1 h2
  cases a; cases b
  simp only [Array.toList_inj] at this
  rw [this]
theorem sortedS_unique : ∀ {xs ys : List Str}, xs.Perm ys → xs.Pairwise (fun x y => ¬ y.cps.toList < x.cps.toList) → ys.Pairwise (fun x y => ¬ y.cps.toList < x.cps.toList) → xs = ys
  | [], ys, p, _, _ => by rw [List.nil_perm.mp p]
  | x :: xs, [], p, _, _ => by simpa using p.length_eq
  | x :: xs, y :: ys, p, h1, h2 => by
    have e : x = y := by
      rcases List.mem_cons.mp (p.mem_iff.mp List.mem_cons_self) with e | hx
      · exact e
      · rcases List.mem_cons.mp (p.mem_iff.mpr (List.mem_cons_self (a := y))) with e | hy
        · exact e.symm
        · exact str_tot ((List.pairwise_cons.mp h2).1 x hx) ((List.pairwise_cons.mp h1).1 y hy)
    subst e
    rw [sortedS_unique (List.Perm.cons_inv p) (List.pairwise_cons.mp h1).2 (List.pairwise_cons.mp h2).2]
theorem sortS_eq {xs ys : List Str} (p : xs.Perm ys) : sortS xs = sortS ys := sortedS_unique ((sortS_perm xs).trans (p.trans (sortS_perm ys).symm)) (sortS_pw xs) (sortS_pw ys)
section
variable {X : Cx} {S : Sx}
/-- sorted(d), d a dict of texts, any number of them -/
def rSortedDA : List V → Hp → VK → Prop := fun xs H Q => ∃ (a : Addr) (kvs : List (Key × V)) (ks : List Str), xs = [.ref a] ∧ Rd H a (.dK kvs) ∧ kvs.map (·.1) = ks.map Sum.inr ∧ ∀ p, H p = none → Q (.ref p) (upd H p (.lst ((sortS ks).map V.str)))
/-- sorted(x), x a list of texts, any number of them -/
def rSortedSA (K : PySem.W.Frag) : List V → Hp → VK → Prop := fun vs H Q => ∃ (a : Addr) (ks : List Str), vs = [V.ref a] ∧ SqL K H a (ks.map V.str) ∧ ∀ p, H p = none → Q (.ref p) (upd H p (.lst ((sortS ks).map V.str)))
theorem call_sortedSA : CallR X (.builtin "sorted") (rSortedSA X.K) := by
  intro pins s σ H vs us Q I r h
  obtain ⟨a, ks, rfl, hs, q⟩ := h
  obtain ⟨its, rv, hl, hz⟩ := I.list hs
  rw [Vals.ref1 r]
  have hi := rv.strs
  refine SrtO.sorted_ord SrtB.swo_str hl.isList (by rw [← rv.length]; exact hz) (fun h2 h₁ a' _ _ => SrtB.strs_sortable hi h2) fun out h1 h2 => ?_
  obtain ⟨k1, k2, k3⟩ := SrtB.strs_out hi h1 h2
  obtain ⟨ep, he'⟩ := PyProof.Rows.sortedAll_at s.heap its out.toArray
  rw [sortedS_unique (k2.trans (sortS_perm ks).symm) k3 (sortS_pw ks)] at k1
  have hlen : ((sortS ks).map V.str).length ≤ sizeLine := by
    rw [List.length_map, (sortS_perm ks).length_eq]
    rw [List.length_map] at hz
    exact hz
  exact ⟨.ref _, upd H (s.heap.objs.size + 1) (.lst ((sortS ks).map V.str)), I.laid (t' := s.toks) (fun _ _ => PyProof.Rows.sortedAll_old) (Nat.le_succ _) ⟨hlen, out, ep, vals_of_strs k1, he'⟩, rfl, q _ (I.hok.fresh (Nat.le_succ _))⟩
theorem call_sortedDA (hcalm : X.calm = true) : CallR X (.builtin "sorted") rSortedDA := by
  intro pins s σ H xs us Q I r q
  obtain ⟨a, kvs, ks, ex, hd, hks, q⟩ := q
  subst ex
  obtain ⟨u, eu, rx⟩ := vals1 r
  subst eu
  cases rx
  obtain ⟨z, lo, vs, rel, dd⟩ := dk_rd I.hok hd
  obtain ⟨ep, hat⟩ := dd.dictAt
  have hkeys : vs.map (·.1) = ks.map Sum.inr := rel.keys.symm.trans hks
  have hl : vs.length = ks.length := by
    have e := congrArg List.length hkeys
    rw [List.length_map, List.length_map] at e
    exact e
  have h16 : vs.length ≤ sizeLine := by rw [← rel.length]; exact z
  refine Calls.call_function_entry PyProof.Rows.kind_sorted PyProof.Rows.plain_sorted PyProof.Rows.entry_sorted (PyProof.Rows.args_sorted1 _) ?_
  unfold Builtin.«sorted»
  refine wpAny_bind (m := checkCount "sorted" 1 1 _) (wpAny_pure ?_)
  refine wpAny_bind (PySem.W.kdu_collect (A := X.A.in1) (PySem.W.kdl_dict (knd := mixKind X.prog X.w) (kvs := vs) (ep := ep) lo) (I.ok.hd hcalm) hat h16 fun h' tk acc hk hacc => ?_)
  have hal : acc.toList.length = ks.length := by rw [Array.length_toList, hacc.1, hl]
  have hS : StrsAre acc.toList ks := strs_at hal fun j v e => by
    obtain ⟨k, x, e1, e2⟩ := hacc.2 j v (by rw [← Array.getElem?_toList]; exact e)
    have e3 : (vs.map (·.1))[j]? = some k := by rw [List.getElem?_map, e1]; all_goals rfl
    rw [hkeys, List.getElem?_map] at e3
    cases e4 : ks[j]? with
    | none => rw [e4] at e3; cases e3
    | some y =>
      rw [e4] at e3
      have e5 : Sum.inr y = k := Option.some.inj e3
      subst e5
      obtain ⟨t, ev⟩ := Value.isStrOf_shape (x := y) (v := v) e2
      exact ⟨y, t, rfl, ev⟩
  have I1 : Inv X pins σ H { s with heap := h', toks := tk } := I.kept hk
  have hz' : acc.toList.length ≤ sizeLine := by rw [hal, ← hl]; exact h16
  refine wpAny_bind (wpAny_newList ?_ hz')
  have hoL : (h'.push (seqObj "list" acc.toList.toArray 0)).get? h'.objs.size = some (seqObj "list" acc.toList.toArray 0) := Heap.get?_push_size _ rfl
  show wpAny _ _ _ _ _ { s with heap := h'.push (seqObj "list" acc.toList.toArray 0), toks := tk }
  refine wpAny_bind (wpAny_holding (wpAny_call_entry PyProof.Rows.slot_list_sort ⟨_, hoL, rfl⟩ PyProof.Rows.entry_list_sort
    (SrtO.list_sort_ord (s := { s with heap := h'.push (seqObj "list" acc.toList.toArray 0), toks := tk }) SrtB.swo_str hoL hz' (fun h2 => SrtB.strs_sortable hS h2) fun out h1 h2 => ⟨_, rfl, ?_⟩)
    (PyProof.Rows.args_list_sort _)))
  obtain ⟨k1, k2, k3⟩ := SrtB.strs_out hS h1 h2
  rw [sortedS_unique (k2.trans (sortS_perm ks).symm) k3 (sortS_pw ks)] at k1
  obtain ⟨e', he'⟩ := PyProof.Rows.sortedHeap_at (vs := acc.toList) (out := out.toArray) hoL
  have hlen : ((sortS ks).map V.str).length ≤ sizeLine := by
    rw [List.length_map, (sortS_perm ks).length_eq, ← hl]
    exact h16
  refine wpAny_pure ⟨_, rfl, .ref h'.objs.size, upd H h'.objs.size (.lst ((sortS ks).map V.str)), I1.laid (t' := tk) (fun b u e => ?_) (Nat.le_refl _)
    (show ObjOk X.prog X.w _ _ _ (.lst ((sortS ks).map V.str)) from ⟨hlen, out, e', vals_of_strs k1, he'⟩), rfl, q _ (I1.hok.fresh (Nat.le_refl _))⟩
  have hb : b < h'.objs.size := Heap.lt_size e
  rw [PyProof.Rows.sortedHeap_old (Nat.ne_of_lt hb) (by rw [size_push']; exact Nat.lt_succ_of_lt hb)]
  exact Heap.get?_push_of_some _ e
def strsOf : List D → Option (List Str)
  | [] => some []
  | .str x :: r => (strsOf r).map (x :: ·)
  | _ => none
theorem strsOf_map : ∀ (ns : List Str), strsOf (ns.map .str) = some ns
  | [] => rfl
  | n :: ns => by rw [List.map_cons, strsOf, strsOf_map ns]; rfl
theorem strsOf_eq : ∀ {xs : List D} {ns : List Str}, strsOf xs = some ns → xs = ns.map .str
  | [], ns, h => by cases h; rfl
  | d :: ds, ns, h => by
    cases d with
    | str x =>
      have h : (strsOf ds).map (x :: ·) = some ns := h
      cases e : strsOf ds with
      | none => rw [e] at h; cases h
      | some m => rw [e] at h; cases h; rw [strsOf_eq e]; rfl
    | _ => cases h
theorem RpA.ofStrs {c : Cz} {H : Hp} : ∀ ns : List Str, RpA c H (ns.map V.str) (ns.map .str)
  | [] => .nil
  | n :: ns => .cons (.str n) (RpA.ofStrs ns)
theorem RpA.isStrs {c : Cz} {H : Hp} {vs : List V} : ∀ {ns : List Str}, RpA c H vs (ns.map .str) → vs = ns.map V.str := by
  induction vs with
  | nil =>
    intro ns h
    cases ns with
    | nil => rfl
    | cons n ns => cases h
  | cons v vs ih =>
    intro ns h
    cases ns with
    | nil => cases h
    | cons n ns =>
      cases h with
      | cons h1 h2 =>
        cases h1
        rw [ih h2]
        rfl
def dSortedA : List D → Rv (List D)
  | [.list xs] => match intsOf xs with
    | some ns => .ok ((sortI ns).map .int)
    | none => match strsOf xs with
      | some ks => .ok ((sortS ks).map .str)
      | none => .un
  | [.dict ((.none, .int m) :: ds)] => if m = 0 then match strsOf (ds.map (·.1)) with
      | some ks => .ok ((sortS ks).map .str)
      | none => .un
    else .un
  | _ => .un
theorem dSortedA_i (ns : List Int) : dSortedA [.list (ns.map .int)] = .ok ((sortI ns).map .int) := by
  unfold dSortedA
  simp only [intsOf_map]
theorem dSortedA_d (ks : List Str) (ds : List (D × D)) (h : ds.map (·.1) = ks.map .str) : dSortedA [.dict ((.none, .int 0) :: ds)] = .ok ((sortS ks).map .str) := by
  unfold dSortedA
  simp only [h, strsOf_map, if_true]
theorem RpK.keysS {c : Cz} {H : Hp} : ∀ {ds : List (D × D)} {kvs : List (Key × V)} {ks : List Str}, RpK c H kvs ds → ds.map (·.1) = ks.map .str → kvs.map (·.1) = ks.map Sum.inr
  | [], _, ks, h, e => by
    cases h
    cases ks with
    | nil => rfl
    | cons k ks => cases e
  | (e0, d) :: ds, _, ks, h, e => by
    cases h with
    | @cons k v vs _ _ h1 h2 =>
      cases ks with
      | nil => cases e
      | cons k' ks =>
        rw [List.map_cons, List.map_cons] at e
        injection e with e1 e2
        rw [List.map_cons, List.map_cons, RpK.keysS h2 e2]
        cases k with
        | inl i => cases e1
        | inr x => cases e1; rfl
def rSortedA (K : PySem.W.Frag) : List V → Hp → VK → Prop := fun xs H Q => rSortedI K xs H Q ∨ rSortedSA K xs H Q ∨ rSortedDA xs H Q
theorem call_sortedA (hc : X.calm = true) : CallR X (.builtin "sorted") (rSortedA X.K) := cr_sortedI.or (call_sortedSA.or (call_sortedDA hc))
theorem on_sortedA : OpNF S (rSortedA S.K) dSortedA := by
  intro xs ds H Z Q σ z r h
  cases r with
  | nil => exact False.elim h
  | cons r1 r2 =>
    cases r2 with
    | cons _ _ => cases r1 <;> exact False.elim h
    | nil =>
      cases r1 with
      | @lst a vs ds h1 h2 =>
        have hh : Post S (fun H' (p : Addr × List V) ds => RpA S.c H' p.2 ds) σ Z H (fun p H' => H' p.1 = none → Q (.ref p.1) (upd H' p.1 (.lst p.2))) (match intsOf ds with | some ns => .ok ((sortI ns).map .int) | none => match strsOf ds with | some ks => .ok ((sortS ks).map .str) | none => .un) := h
        cases e : intsOf ds with
        | none =>
          rw [e] at hh
          cases e2 : strsOf ds with
          | none => rw [e2] at hh; exact False.elim hh
          | some ks =>
            rw [e2] at hh
            clear h
            obtain rfl := strsOf_eq e2
            obtain rfl := RpA.isStrs h2
            exact .inr (.inl ⟨a, ks, rfl, ((Gr.hid_le H Z).rdl h1).sq, fun p hp => hh (p, (sortS ks).map V.str) H (Gr.refl H) (RpA.ofStrs _) hp⟩)
        | some ns =>
          rw [e] at hh
          clear h
          obtain rfl := intsOf_eq e
          obtain rfl := RpA.isInts h2
          refine .inl ⟨a, ns, rfl, ((Gr.hid_le H Z).rdl h1).sq, fun ns' p k1 k2 hp => ?_⟩
          have e2 : ns' = sortI ns := sorted_unique (k1.trans (sortI_perm ns).symm) k2 (sortI_pw ns)
          subst e2
          exact hh (p, (sortI ns).map V.int) H (Gr.refl H) (RpA.ofInts _) hp
      | @dctK a kvs ds h1 h2 =>
        have hh : Post S (fun H' (p : Addr × List V) ds => RpA S.c H' p.2 ds) σ Z H (fun p H' => H' p.1 = none → Q (.ref p.1) (upd H' p.1 (.lst p.2))) (match strsOf (ds.map (·.1)) with | some ks => .ok ((sortS ks).map .str) | none => .un) := h
        cases e : strsOf (ds.map (·.1)) with
        | none => rw [e] at hh; exact False.elim hh
        | some ks =>
          rw [e] at hh
          clear h
          exact .inr (.inr ⟨a, kvs, ks, rfl, (Gr.hid_le H Z).rd h1, RpK.keysS h2 (strsOf_eq e), fun p hp => hh (p, (sortS ks).map V.str) H (Gr.refl H) (RpA.ofStrs _) hp⟩)
      | _ => exact False.elim h
end
end Bv

namespace Bv
open PySem PySem.Spec L2 PyProof.Rows

/-! ### min of a tuple or of a list of whole numbers -/
def minI : Int → List Int → Int
  | n, [] => n
  | n, m :: ms => minI (if m < n then m else n) ms
theorem minI_spec : ∀ (n : Int) (ms : List Int), minI n ms ∈ n :: ms ∧ ∀ a ∈ n :: ms, minI n ms ≤ a
  | n, [] => ⟨by simp [minI], by simp [minI]⟩
  | n, m :: ms => by
    obtain ⟨h1, h2⟩ := minI_spec (if m < n then m else n) ms
    unfold minI
    refine ⟨?_, fun a ha => ?_⟩
    · rcases List.mem_cons.mp h1 with e | h
      · rw [e]; split <;> simp
      · exact List.mem_cons_of_mem _ (List.mem_cons_of_mem _ h)
    · have h0 : minI (if m < n then m else n) ms ≤ (if m < n then m else n) := h2 _ List.mem_cons_self
      have h3 : (if m < n then m else n) ≤ n ∧ (if m < n then m else n) ≤ m := by split <;> omega
      rcases List.mem_cons.mp ha with e | ha
      · subst e; exact Int.le_trans h0 h3.1
      · rcases List.mem_cons.mp ha with e | ha
        · subst e; exact Int.le_trans h0 h3.2
        · exact h2 a (List.mem_cons_of_mem _ ha)
theorem minI_eq {n M : Int} {ms : List Int} (h1 : M ∈ n :: ms) (h2 : ∀ a ∈ n :: ms, M ≤ a) : M = minI n ms := by
  obtain ⟨k1, k2⟩ := minI_spec n ms
  exact Int.le_antisymm (h2 _ k1) (k2 _ h1)
section
variable {prog : Program} {w : World} {A : Around} {E : Value → Shared → Prop} {s : Shared} {l : Addr} {its : List Value} {ns : List Int}
theorem min_rawT {Q : Value → Shared → Prop} (hh : A.handled = none) (hl : s.heap.IsTuple l its.toArray) (hi : IntsAre its ns) (hne : 0 < ns.length)
    (h : ∀ h' tk M t', (∀ b o, s.heap.get? b = some o → h'.get? b = some o) → M ∈ ns → (∀ a, a ∈ ns → M ≤ a) → Q (.int M t') { s with heap := h', toks := tk }) : wpAny (model prog w) A (call (.builtin "min") [.ref l]) Q E s := by
  obtain ⟨xs, e⟩ := hi.allInts.items
  have hn : numsOf (intItems xs).toList = ns := by rw [← e]; exact hi.numsOf
  rw [nums_intItems] at hn
  subst hn
  rw [e] at hl
  have hsz : 0 < xs.size := by simpa using hne
  obtain ⟨o, ho, _⟩ := id hl
  have hlt : l < s.heap.objs.size := Heap.lt_size ho
  refine call_min_walk (wpAny_pyIter_tuple hl ?_)
  refine ⟨_, [_, l], [_], _, _, _, _, rfl, Walks.tuple (A := A.in1) hh _ l (Nat.ne_of_lt hlt) (intItems xs), ⟨⟨_, Heap.get?_push_size _ rfl, rfl, rfl⟩, hl.push _⟩, fun d hd => ?_, by simpa [intItems] using hsz, CmpOf.ints_lt (numAt xs) (fun _ _ => intItems_at), fun v h' tk hP hk => ?_⟩
  · show d < (s.heap.push _).objs.size
    rw [Heap.size_push]
    rcases List.mem_cons.mp hd with rfl | hd
    · exact Nat.lt_succ_self _
    · rcases List.mem_cons.mp hd with rfl | hd
      · exact Nat.lt_succ_of_lt hlt
      · cases hd
  · have hP' : (intItems xs)[argBest (fun i j => decide (numAt xs i < numAt xs j)) (xs.size - 1)]? = some v := by simpa [intItems] using hP
    obtain ⟨t, rfl⟩ := intItems_at hP'
    obtain ⟨h1, h2⟩ := argBest_lt (numAt xs) (xs.size - 1)
    refine h h' tk _ t (fun d o e => ?_) ?_ fun a ha => ?_
    · refine hk d o (fun hm => ?_) (Heap.get?_push_of_some _ e)
      rcases List.mem_cons.mp hm with e1 | hm
      · have := Heap.lt_size e; rw [e1] at this; exact Nat.lt_irrefl _ this
      · cases hm
    · rw [numAt_eq]; exact PySem.getD_mem (by rw [List.length_map, Array.length_toList]; omega)
    · obtain ⟨j, hj, rfl⟩ := mem_getD ha
      rw [List.length_map, Array.length_toList] at hj
      rw [← numAt_eq]; exact h2 j (by omega)
end
def dMinS : List D → Rv D
  | [.list xs] => match intsOf xs with | some (n :: ns) => .ok (.int (minI n ns)) | _ => .un
  | [.tuple xs] => match intsOf xs with | some (n :: ns) => .ok (.int (minI n ns)) | _ => .un
  | _ => .un
theorem dMinS_t (n : Int) (ns : List Int) : dMinS [.tuple ((n :: ns).map .int)] = .ok (.int (minI n ns)) := by
  show (match intsOf ((n :: ns).map .int) with | some (n :: ns) => Rv.ok (PyData.int (minI n ns)) | _ => .un) = _
  rw [intsOf_map]
def rMinA (K : PySem.W.Frag) : List V → Hp → VK → Prop := fun vs H Q => ∃ (a : Addr) (n : Int) (ns : List Int), vs = [V.ref a] ∧ (SqL K H a ((n :: ns).map V.int) ∨ SqT K H a ((n :: ns).map V.int)) ∧ Q (.int (minI n ns)) H
section
variable {X : Cx} {S : Sx}
theorem call_minA (hc : X.calm = true) : CallR X (.builtin "min") (rMinA X.K) := by
  intro pins s σ H vs us Q I r h
  obtain ⟨a, n, ns, rfl, hs | hs, q⟩ := h
  · exact cr_min hc pins s σ H _ us Q I r ⟨a, n :: ns, rfl, hs, by simp, fun m h1 h2 => by rw [minI_eq h1 h2]; exact q⟩
  · obtain ⟨its, rv, hl, _⟩ := I.tuple hs
    rw [Vals.ref1 r]
    exact min_rawT (I.ok.hd hc) hl rv.ints (by simp) fun h' tk m t' hk h1 h2 => ⟨.int _, H, I.kept hk, ⟨_, rfl⟩, by rw [minI_eq h1 h2]; exact q⟩
theorem on_minS : OpN S (rMinA S.K) dMinS := by
  intro xs ds H Z Q σ z r h
  cases r with
  | nil => exact False.elim h
  | cons r1 r2 =>
    cases r2 with
    | cons _ _ => cases r1 <;> exact False.elim h
    | nil =>
      cases r1 with
      | @lst a vs ds h1 h2 =>
        have hh : Post S (RE S) σ Z H Q (match intsOf ds with | some (n :: ns) => .ok (.int (minI n ns)) | _ => .un) := h
        cases e : intsOf ds with
        | none => rw [e] at hh; exact False.elim hh
        | some ns =>
          rw [e] at hh
          obtain rfl := intsOf_eq e
          obtain rfl := RpA.isInts h2
          cases ns with
          | nil => exact False.elim hh
          | cons n ns => exact ⟨a, n, ns, rfl, .inl ((Gr.hid_le H Z).rdl h1).sq, Post.ok (R := RE S) hh (.int _)⟩
      | @tup a vs ds h1 h2 =>
        have hh : Post S (RE S) σ Z H Q (match intsOf ds with | some (n :: ns) => .ok (.int (minI n ns)) | _ => .un) := h
        cases e : intsOf ds with
        | none => rw [e] at hh; exact False.elim hh
        | some ns =>
          rw [e] at hh
          obtain rfl := intsOf_eq e
          obtain rfl := RpA.isInts h2
          cases ns with
          | nil => exact False.elim hh
          | cons n ns => exact ⟨a, n, ns, rfl, .inr ((Gr.hid_le H Z).sqT h1), Post.ok (R := RE S) hh (.int _)⟩
      | _ => exact False.elim h
end
end Bv

namespace Bv
open PySem PySem.Spec L2 PyProof.Rows
/-- a whole number by its global name -/
def GInt (T : Wd) (x : Str) (i : Int) : Prop := ∃ t, T.mg x = some (.int i t)
section
variable {S : Sx}
theorem se_gint {x : Str} {i : Int} {pos : Pos} (hm : GInt S.toWd x i) (hg : S.sc.names.lookup x = some .globalImplicit := by rfl) (hd : (x == ("__debug__" : Str)) = false := by decide) : SemE S (.Name x pos) (cst (.int i)) := by
  refine ⟨⟨tC (.int i), fun X hX => ?_, fun η σ H Z Q z hη h => ?_⟩⟩
  · obtain ⟨t, ht⟩ := hm
    exact pe_glob (by show X.env.scope.names.lookup x = _; rw [hX.hsc]; exact hg) (by rw [hX.hmg]; exact ht) ⟨_, rfl⟩ hd
  · exact Post.ok (R := RE S) h (.int i)
end
end Bv

namespace Bv
open PySem PySem.Spec L2 PyProof.Rows

/-! ### a walk over a dict's keys, nested tuples -/
def ItN (a : Addr) (o : Obj) (ks : List Addr) : It := ⟨fun i H => i < ks.length ∧ H a = some (rawO a o), fun i H x H' => H' = H ∧ ∃ b, ks[i]? = some b ∧ x = .ref b, fun i H => ks.length ≤ i ∧ H a = some (rawO a o)⟩
theorem turn_ItN {P : Program} {w : World} {K : PySem.W.Frag} {mg : Str → Option Value} {tg : Expr} {a it : Addr} {o : Obj} {xs : List (NestedKey × Addr × V)} {es : Array DictEntry} {ep : Nat} {us : List (NestedKey × Addr × Value)} (hd : o.data = .dict es ep) (hp : Paired EnR xs us) (he : es.toList = us.map (entryOfKey (nestedKind P w))) :
    Turn P w K tg (ItN a o (xs.map (·.2.1))) [it] it (fun i h => i ≤ xs.length ∧ h.IsKeyIter it a i xs.length ep) where
  mem := by simp
  obj := fun i h st b hb => by
    have e : b = it := by simpa using hb
    subst e
    obtain ⟨_, o, e, c, d⟩ := st
    exact ⟨o, e, fun v z => by rw [d] at z; cases z⟩
  keep := fun i h h' st k => ⟨st.1, st.2.at fun o e => k it (by simp) o e⟩
  item := by
    intro X hP hw hK hc i pins s σ H E I hf st hg
    subst hP hw hK
    obtain ⟨hin, ha⟩ := hg
    rw [List.length_map] at hin
    obtain ⟨f0, f1, f2, f3, f4, f5⟩ := hf it (by simp)
    obtain ⟨_, hit⟩ := st
    have hl := Paired.length hp
    have hsz : es.size = xs.length := by rw [← Array.length_toList, he, List.length_map, hl]
    have hx : xs[i]? = some xs[i] := List.getElem?_eq_getElem hin
    obtain ⟨u, hu, r1, r2, r3⟩ := paired_get hp hx
    have hen : es[i]? = some (entryOfKey (nestedKind X.prog X.w) u) := by
      rw [← Array.getElem?_toList, he, List.getElem?_map, hu]; rfl
    refine next_key_item hit (rawO_at I.hok ha) hd hsz hen fun h' st' sb => ?_
    have I1 : Inv X pins σ H { s with heap := h', toks := s.toks } := I.turned (t' := s.toks) (fun b o hb e => (sb.2 b hb).trans e) f0 f1 f3 f4 f5
    obtain ⟨oo, e, c, d⟩ := id st'
    refine ⟨.ref u.2.1, rfl, go_of (s := { s with heap := h' }) e c d (by decide) ⟨.ref u.2.1, H, I1, rfl, ⟨rfl, u.2.1, ?_, rfl⟩, ⟨hin, st'⟩, fun b hb => (hf b hb).1⟩⟩
    rw [List.getElem?_map, hx, ← r2]; rfl
  done := by
    intro X hP hw hK hc i pins s σ H E I hf st hg
    subst hP hw hK
    obtain ⟨hin, ha⟩ := hg
    rw [List.length_map] at hin
    obtain ⟨f0, f1, f2, f3, f4, f5⟩ := hf it (by simp)
    obtain ⟨_, hit⟩ := st
    have hl := Paired.length hp
    have hsz : es.size = xs.length := by rw [← Array.length_toList, he, List.length_map, hl]
    exact next_key_end (I.ok.hd hc) hit (rawO_at I.hok ha) hd hsz hin fun h' eb => ⟨rfl, I.turned (t' := s.toks) (fun b o hb e => eb b o hb e) f0 f1 f3 f4 f5⟩
  self := fun A i s Q E st h => wpAny_pyIter_keyiter st.2 h
def iDctN (c : Cz) (te : TE) : TI := fun σ H R => te σ H fun v H1 => ∃ (a : Addr) (o : Obj) (xs : List (NestedKey × Addr × V)), v = .ref a ∧ H1 a = some (rawO a o) ∧ DN c a o xs ∧ R (ItN a o (xs.map (·.2.1))) H1
section
variable {X : Cx} {S : Sx}
theorem pi_dctN {tg e : Expr} {te : TE} (he : PE X e te) : PI X tg e (iDctN (cz X) te) := by
  refine ⟨fun pins s σ H R I h => ?_⟩
  refine thn (he.run pins s σ H _ I h) fun v s1 ⟨y, H1, I1, r1, a, o, xs, ex, ha, hn, q⟩ => ?_
  subst ex
  obtain rfl : v = Value.ref a := r1
  obtain ⟨es, ep, us, h1, h2, h3⟩ := hn.en
  have hl := Paired.length h2
  have hsz : es.size = xs.length := by rw [← Array.length_toList, h3, List.length_map, hl]
  refine iter_keys hn.sm (rawO_at I1.hok ha) hn.ed h1 ?_
  refine pi_one (tk := s1.toks) I1 _ (turn_ItN (mg := X.mg) h1 h2 h3) ⟨Nat.zero_le _, ?_⟩ q
  rw [← hsz]
  exact ⟨_, Heap.get?_push_size _ rfl, rfl, by simp [rawInt]⟩
theorem walk_ItN {a : Addr} {o : Obj} {ks : List Addr} : Walk (ItN a o ks) ks.length (fun H => H a = some (rawO a o)) (fun i H x H' => H' = H ∧ ∃ b, ks[i]? = some b ∧ x = .ref b) where
  goes := fun i H hi h => ⟨hi, h⟩
  stops := fun H h => ⟨Nat.le_refl _, h⟩
  yields := fun i H x H' hi h y => y
end
end Bv

namespace Bv
open PySem PySem.Spec L2 PyProof.Rows
def itemsD : D → Option (List D)
  | .dict ((.none, .int m) :: ds) => if m = 1 then some (ds.map (·.1)) else none
  | _ => none
theorem itemsD_N (ds : List (D × D)) : itemsD (.dict ((.none, .int 1) :: ds)) = some (ds.map (·.1)) := rfl
theorem RpN.key {c : Cz} {H : Hp} : ∀ {ds : List (D × D)} {xs : List (NestedKey × Addr × V)} {i : Nat} {b : Addr}, RpN c H xs ds → (xs.map (·.2.1))[i]? = some b → ∃ e, (ds.map (·.1))[i]? = some e ∧ Rp c H (.ref b) e
  | [], _, i, b, h, q => by cases h; cases q
  | (e, d) :: ds, _, i, b, h, q => by
    cases h with
    | cons h1 h2 h3 h4 =>
      cases i with
      | zero => cases q; exact ⟨e, rfl, h1⟩
      | succ i => exact RpN.key (i := i) h4 q
def sforD (M : List Nat) (b : D → Env' → Option Env') (f : Vw → Rv D) (g : Env' → Res) (ρ : Env') : Res := (f (vw M ρ)).st fun d => match itemsD d with
  | some xs => forL b g xs (frz M ρ)
  | none => .un
section
variable {X : Cx} {S : Sx}
/-- for target in a dict of nested tuples for keys -/
theorem ss_forD {tg iter : Expr} {body : List Stmt} {b : D → Env' → Option Env'} {f : Vw → Rv D} {g : Env' → Res} {pos : Pos} (M : List Nat) (ht : SemTg S tg b) (hi : SemE S iter f) (hb : SemSs S body g) (hdf : S.df = true := by rfl)
    (hs : ∀ env x, foldedSetIterable iter env x = pure x := by intro _ _; rfl) : SemS S (.For tg iter body [] pos) (sforD M b f g) := by
  obtain ⟨ti, pi, qi⟩ := hi.ex
  obtain ⟨tt, pt, qt⟩ := ht.ex
  obtain ⟨tb, pb, qb⟩ := hb.ex
  refine ⟨⟨tFor (iDctN S.c ti) tt tb, fun X hX => ?_, fun ρ F H0 Z σ H Dn ⟨o, k⟩ h => ?_⟩⟩
  · rw [← At.cz hX]
    exact ps_for (hX.pass hdf) hX.calm (pi_dctN (pi X hX)) (pt X hX) (pb X hX) (hs _)
  · unfold sforD at h
    refine qi (vw M ρ) σ H (hz Z ρ o M) _ k.hin k.view ?_
    cases ef : f (vw M ρ) with
    | un => rw [ef] at h; exact False.elim h
    | xc x => rw [ef] at h; exact fun cls dx H' e q => h cls dx σ H' (k.gr.trans e) (k.out e) (q.gr ((Gr.refl H').hid2 fun a z => .inl z))
    | ok d =>
      rw [ef] at h
      have h : PostS S F H0 Z Dn (match itemsD d with | some xs => forL b g xs (frz M ρ) | none => .un) := h
      intro v H' e r
      have k' := k.grow e
      have k3 := k'.freeze M
      have r : Rp S.c (hid H' (hz Z (frz M ρ) o [])) v d := by rw [hid_frz]; exact r
      have k1 : Ok S.c (hid H' (hz Z (frz M ρ) o [])) H0 Z (frz M ρ) σ H' := ⟨o, k3.keep (Gr.refl _)⟩
      have eF := k3.fr
      cases r with
      | @dctN a ob xs ds h1 h2 h3 =>
        rw [itemsD_N] at h
        obtain ⟨es, hes⟩ : ∃ es, es = ds.map (·.1) := ⟨_, rfl⟩
        have hk : ∀ {i : Nat} {b : Addr}, (xs.map (·.2.1))[i]? = some b → ∃ e, es[i]? = some e ∧ Rp S.c (hid H' (hz Z (frz M ρ) o [])) (.ref b) e := fun q => by rw [hes]; exact RpN.key h3 q
        have hlen : (xs.map (·.2.1)).length = es.length := by rw [hes, List.length_map, List.length_map, RpN.length h3]
        rw [← hes] at h
        have h : PostS S F H0 Z Dn (forL b g es (frz M ρ)) := h
        refine ⟨a, ob, xs, rfl, Gr.hid_le _ _ _ _ h1, h2, ?_⟩
        have := for_it (walk_ItN (a := a) (o := ob) (ks := xs.map (·.2.1))) (g := tt) (tb := tb) (D := Dn) (σ := σ) (H := H') (fun i σ' H2 => ∃ ρ', Ok S.c (hid H' (hz Z (frz M ρ) o [])) H0 Z ρ' σ' H2 ∧ PostS S F H0 Z Dn (forL b g (es.drop i) ρ')) ⟨_, k1, h⟩
          (fun i σ' H2 _ ⟨ρ', ⟨o', k2⟩, _⟩ => (k2.fr.trans (Gr.hid_le _ _)) _ _ h1) ?_ ?_
        · exact this
        · rintro i x σ' H2 H3 hlt ⟨ρ', k2, hp⟩ ⟨rfl, bb, hbb, rfl⟩
          obtain ⟨e', he', re⟩ := hk hbb
          rw [drop_cons he'] at hp
          exact turn_run qt qb eF k2 re hp fun ρ2 σ3 H3 k3 h3 => ⟨ρ2, k3, h3⟩
        · rintro σ' H2 ⟨ρ', k2, hp⟩
          rw [hlen, List.drop_length] at hp
          exact hp σ' H2 (k2.keep eF)
      | lst _ _ => exact False.elim h
      | tup _ _ => exact False.elim h
      | dctK _ _ => exact False.elim h
      | exc0 _ _ => exact False.elim h
      | exc1 _ _ _ _ => exact False.elim h
      | _ => exact False.elim h
def srcD (f : Vw → Rv D) (η : Vw) : Rv (List D) := (f η).bind fun d => match itemsD d with | some xs => .ok xs | none => .un
/-- [elt for tg in a dict if ..] -/
theorem sc_dict {n : Nat} {elt tg iter : Expr} {ifs : List Expr} {scope : Scope} {b : D → Vw → Option Vw} {ft : Vw → Rv Bool} {fe : Vw → Rv D} {f : Vw → Rv D} (own : List (Str × Nat)) (vs : List Nat) (hi : SemE S iter f) (hb : blkC S.N S.sc scope own = true) (hg : SemTv (S.blk scope) tg vs b)
    (ht : SemP (S.blk scope) ifs ft) (he : SemX (S.blk scope) n elt fe) (hv : own.map (·.2) = vs := by rfl) : SemC S n elt tg iter ifs scope (cmp vs b ft fe (srcD f)) := by
  obtain ⟨ti, pi, qi⟩ := hi.ex
  obtain ⟨g, pg, qg⟩ := hg.ex
  obtain ⟨tt, pt, qt⟩ := ht.ex
  obtain ⟨te, pe, qe⟩ := he.ex
  refine ⟨⟨iDctN S.c ti, g, tt, te, own, fun X hX => ?_, fun X hX => blkOk_by (by rw [hX.hN, hX.hsc]; exact hb), pg, pt, pe, hv.symm ▸ (fun η σ H Z Q z hη h => ?_)⟩⟩
  · rw [← At.cz hX]
    exact pi_dctN (pi X hX)
  · unfold cmp srcD at h
    refine qi η σ H Z _ z hη ?_
    cases ef : f η with
    | un => rw [ef] at h; exact False.elim h
    | xc x => rw [ef] at h; exact h
    | ok d =>
      rw [ef] at h
      intro v H' e r
      cases r with
      | @dctN a ob xs ds h1 h2 h3 =>
        simp only [Rv.bind_ok, itemsD_N] at h
        obtain ⟨es, hes⟩ : ∃ es, es = ds.map (·.1) := ⟨_, rfl⟩
        have hk : ∀ {i : Nat} {b : Addr}, (xs.map (·.2.1))[i]? = some b → ∃ e, es[i]? = some e ∧ Rp S.c (hid H' Z) (.ref b) e := fun q => by rw [hes]; exact RpN.key h3 q
        have hlen : (xs.map (·.2.1)).length = es.length := by rw [hes, List.length_map, List.length_map, RpN.length h3]
        rw [← hes] at h
        split at h
        · rename_i hl
          cases ec : compL b ft fe es (wipeV vs η) with
          | un => rw [ec] at h; exact False.elim h
          | xc x => exact absurd ec (compL_nox _ _ _)
          | ok fin =>
            rw [ec] at h
            have hf := Nat.le_trans (compL_len ec) hl
            have hp : PostFX S n σ Z H' Q (.ok fin) := h.gr e
            refine ⟨a, ob, xs, rfl, Gr.hid_le _ _ _ _ h1, h2, fun Dl hD => ?_⟩
            refine lc_it (walk_ItN (a := a) (o := ob) (ks := xs.map (·.2.1))) (fun i H2 => Fills S n H' Z Dl fin (compL b ft fe (es.drop i) (wipeV vs η)) H2) (fill_start hD ec) (fun i H2 _ w => (w.ex hD) _ _ (Gr.hid_le _ _ _ _ h1)) ?_ ?_
            · rintro i x H2 H3 hlt w ⟨rfl, bb, hbb, rfl⟩
              obtain ⟨e', he', re⟩ := hk hbb
              have w : Fills S n H' Z Dl fin (compL b ft fe (es.drop i) (wipeV vs η)) H3 := w
              rw [drop_cons he'] at w
              exact fill_turn (scope := scope) qg qt qe (z.gr e) (hη.gr (e.hid Z)) hD hf re (wipe_wipe σ _) w fun H3 w3 => w3
            · intro H2 w
              have w : Fills S n H' Z Dl fin (compL b ft fe (es.drop (xs.map (·.2.1)).length) (wipeV vs η)) H2 := w
              rw [hlen, List.drop_length] at w
              exact fill_end hD (z.gr e) hp w
        · exact False.elim h
      | _ => exact False.elim h
end
end Bv

namespace Bv
open PySem PySem.Spec L2 PyProof.Rows
theorem is_bool_gen {M : Model} {A : Around} {E : Value → Shared → Prop} {s : Shared} {Q : Value → Shared → Prop} {v : Value} {d : Bool} (hv : ∀ id, v ≠ .builtin id) (h : Q (.bool (v == .bool d)) s) : wpAny M A (compareOp .Is v (.bool d)) Q E s := by
  cases v <;> first
    | exact wpAny_pure h
    | exact absurd rfl (hv _)
theorem isnot_bool_gen {M : Model} {A : Around} {E : Value → Shared → Prop} {s : Shared} {Q : Value → Shared → Prop} {v : Value} {d : Bool} (hv : ∀ id, v ≠ .builtin id) (h : Q (.bool (!(v == .bool d))) s) : wpAny M A (compareOp .IsNot v (.bool d)) Q E s := by
  cases v <;> first
    | exact wpAny_pure h
    | exact absurd rfl (hv _)
section
variable {X : Cx} {S : Sx} {a b : Expr} {fa fb : Vw → Rv D} {pos : Pos}
theorem op_isB : OpR X (compareOp .Is) (fun x y H Q => ∃ k, y = .bl k ∧ Q (.bl (decide (x = .bl k))) H) := by
  intro pins s σ H x y v u Q I rx ry h
  obtain ⟨k, rfl, q⟩ := h
  cases ry
  refine is_bool_gen (fun id z => by subst z; cases x <;> first | (obtain ⟨t, zz⟩ := rx; cases zz; done) | (cases rx; done)) (fin_bl I q ?_)
  cases x <;> first
    | (cases rx; cases k <;> rfl)
    | (cases rx; rename_i b; cases b <;> cases k <;> rfl)
    | (obtain ⟨t, rfl⟩ := rx; cases k <;> rfl)
theorem op_notB : OpR X (compareOp .IsNot) (fun x y H Q => ∃ k, y = .bl k ∧ Q (.bl (!decide (x = .bl k))) H) := by
  intro pins s σ H x y v u Q I rx ry h
  obtain ⟨k, rfl, q⟩ := h
  cases ry
  refine isnot_bool_gen (fun id z => by subst z; cases x <;> first | (obtain ⟨t, zz⟩ := rx; cases zz; done) | (cases rx; done)) (fin_bl I q ?_)
  cases x <;> first
    | (cases rx; cases k <;> rfl)
    | (cases rx; rename_i b; cases b <;> cases k <;> rfl)
    | (obtain ⟨t, rfl⟩ := rx; cases k <;> rfl)
/-- is True, is False -/
def isB (k : Bool) : D → Bool
  | .bool j => decide (j = k)
  | _ => false
def dIsB : D → D → Rv D
  | a, .bool k => .ok (.bool (isB k a))
  | _, _ => .un
def dIsNotB : D → D → Rv D
  | a, .bool k => .ok (.bool !(isB k a))
  | _, _ => .un
@[simp] theorem dIsB_b (a : D) (k : Bool) : dIsB a (.bool k) = .ok (.bool (isB k a)) := by cases a <;> rfl
@[simp] theorem dIsNotB_b (a : D) (k : Bool) : dIsNotB a (.bool k) = .ok (.bool !(isB k a)) := by cases a <;> rfl
@[simp] theorem isB_b (k j : Bool) : isB k (.bool j) = decide (j = k) := rfl
@[simp] theorem isB_n (k : Bool) : isB k .none = false := rfl
theorem Rp.isB {c : Cz} {H : Hp} {v : V} {d : D} {k : Bool} (r : Rp c H v d) : Bv.isB k d = decide (v = .bl k) := by
  cases r with
  | bl b => cases b <;> cases k <;> rfl
  | _ => rfl
theorem o2_isB : Op2 S (fun x y H Q => ∃ k, y = .bl k ∧ Q (.bl (decide (x = .bl k))) H) dIsB := by
  intro x y a b H Z Q σ z ra rb h
  cases rb with
  | bl k =>
    rw [dIsB_b, ra.isB] at h
    exact ⟨k, rfl, Post.ok (R := RE S) h (.bl _)⟩
  | _ => cases a <;> exact False.elim h
theorem o2_isnotB : Op2 S (fun x y H Q => ∃ k, y = .bl k ∧ Q (.bl (!decide (x = .bl k))) H) dIsNotB := by
  intro x y a b H Z Q σ z ra rb h
  cases rb with
  | bl k =>
    rw [dIsNotB_b, ra.isB] at h
    exact ⟨k, rfl, Post.ok (R := RE S) h (.bl _)⟩
  | _ => cases a <;> exact False.elim h
theorem se_isB (ha : SemE S a fa) (hb : SemE S b fb) : SemE S (.Compare a [.Is] [b] pos) (bi2 dIsB fa fb) := se_cmp (fun _ _ => op_isB) o2_isB ha hb (nomark _)
theorem se_isnotB (ha : SemE S a fa) (hb : SemE S b fb) : SemE S (.Compare a [.IsNot] [b] pos) (bi2 dIsNotB fa fb) := se_cmp (fun _ _ => op_notB) o2_isnotB ha hb (nomark _)
theorem st_isB (ha : SemE S a fa) (hb : SemE S b fb) : SemT S (.Compare a [.Is] [b] pos) (asB (bi2 dIsB fa fb)) := st_cmp (fun _ _ => op_isB) o2_isB ha hb (nomark _)
theorem st_isnotB (ha : SemE S a fa) (hb : SemE S b fb) : SemT S (.Compare a [.IsNot] [b] pos) (asB (bi2 dIsNotB fa fb)) := st_cmp (fun _ _ => op_notB) o2_isnotB ha hb (nomark _)
end
end Bv

namespace Bv
open PySem PySem.Spec L2 PyProof.Rows

/-! ### texts -/
theorem line_of {n : Nat} (h : n ≤ 16000000) : n ≤ sizeLine := Nat.le_trans h (by decide)
def dAddS : D → D → Rv D
  | .str i, .str j => if i.length + j.length ≤ 16000000 then .ok (.str (i ++ j)) else .un
  | _, _ => .un
@[simp] theorem dAddS_s (i j : Str) : dAddS (.str i) (.str j) = if i.length + j.length ≤ 16000000 then .ok (.str (i ++ j)) else .un := rfl
def dStr : List D → Rv D
  | [.int i] => if i.natAbs.log2 < 1920 then .ok (.str (toString i)) else .un
  | [.str a] => .ok (.str a)
  | _ => .un
@[simp] theorem dStr_i (i : Int) : dStr [.int i] = if i.natAbs.log2 < 1920 then .ok (.str (toString i)) else .un := rfl
@[simp] theorem dStr_s (a : Str) : dStr [.str a] = .ok (.str a) := rfl
def dIntS : List D → Rv D
  | [.str a] => match PySem.intText? a with | some n => if a.length ≤ 640 then .ok (.int n) else .un | none => .un
  | [d] => dInt [d]
  | _ => .un
def dJoin (a : D) (b : D) : Rv D := match a, b with
  | .str x, .list ys => match strsOf ys with | some ks => if (ks.map (·.length)).sum + ks.length * x.length ≤ 16000000 then .ok (.str (Txt.join x ks)) else .un | none => .un
  | _, _ => .un
def dSplit (a b : D) : Rv (List D) := match a, b with
  | .str x, .str y => if (y.length == 0) = false ∧ x.length + 2 ≤ 16000000 then .ok ((Txt.split x y).map .str) else .un
  | _, _ => .un
def dIxS : D → D → Rv D
  | .str z, .int i => if 0 ≤ i ∧ i < z.length ∧ z.length ≤ 16000000 then match z.cps[i.toNat]? with | some c => .ok (.str ⟨#[c]⟩) | none => .un else .un
  | _, _ => .un
def dSlS : D → Option Int → Option Int → Rv D
  | .str z, lo, hi => if z.length ≤ 16000000 then .ok (.str (cutS z lo hi)) else .un
  | _, _, _ => .un
def isStr : D → Bool
  | .str _ => true
  | _ => false
def joinM (fa fb : Vw → Rv D) (η : Vw) : Rv D := (fa η).bind fun a => if isStr a = true then (fb η).bind fun b => dJoin a b else .un
def splitM (fa fb : Vw → Rv D) (η : Vw) : Rv (List D) := (fa η).bind fun a => if isStr a = true then (fb η).bind fun b => dSplit a b else .un
theorem isStr_eq {d : D} (h : isStr d = true) : ∃ x, d = .str x := by
  cases d <;> first | exact ⟨_, rfl⟩ | cases h
def slcS (f : Vw → Rv D) (l u : Vw → Rv (Option Int)) (η : Vw) : Rv D := (f η).bind fun d => (l η).bind fun lo => (u η).bind fun hi => dSlS d lo hi
section
variable {X : Cx} {S : Sx} {a b : Expr} {fa fb : Vw → Rv D} {pos : Pos}
theorem o2_addS : Op2 S (fun x y H Q => ∃ i j, x = .str i ∧ y = .str j ∧ i.length + j.length ≤ sizeLine ∧ Q (.str (i ++ j)) H) dAddS := by
  intro x y a b H Z Q σ z ra rb h
  cases ra with
  | str i =>
    cases rb with
    | str j =>
      rw [dAddS_s] at h
      split at h
      · rename_i hl
        exact ⟨i, j, rfl, rfl, line_of hl, Post.ok (R := RE S) h (.str _)⟩
      · exact False.elim h
    | _ => exact False.elim h
  | _ => exact False.elim h
theorem se_addS (ha : SemE S a fa) (hb : SemE S b fb) : SemE S (.BinOp a .Add b pos) (bi2 dAddS fa fb) := se_op (fun _ _ => op_add_str) o2_addS ha hb
theorem on_str : OpN S (fun xs H Q => (∃ i, xs = [.int i] ∧ i.natAbs.log2 < 1920 ∧ Q (.str (toString i)) H) ∨ ∃ a, xs = [.str a] ∧ Q (.str a) H) dStr := by
  intro xs ds H Z Q σ z r h
  cases r with
  | nil => exact False.elim h
  | cons r1 r2 =>
    cases r2 with
    | cons _ _ => cases r1 <;> exact False.elim h
    | nil =>
      cases r1 with
      | int i =>
        rw [dStr_i] at h
        split at h
        · rename_i hl
          exact .inl ⟨i, rfl, hl, Post.ok (R := RE S) h (.str _)⟩
        · exact False.elim h
      | str x => exact .inr ⟨x, rfl, Post.ok (R := RE S) h (.str _)⟩
      | _ => exact False.elim h
theorem call_strA : CallR X (.type "str") (fun xs H Q => (∃ i, xs = [.int i] ∧ i.natAbs.log2 < 1920 ∧ Q (.str (toString i)) H) ∨ ∃ a, xs = [.str a] ∧ Q (.str a) H) := call_str_int.or SkE.call_str_str
theorem on_intS : OpN S (fun xs H Q => (∃ a n, xs = [.str a] ∧ PySem.intText? a = some n ∧ a.length ≤ 640 ∧ Q (.int n) H) ∨ (∃ i, xs = [.int i] ∧ Q (.int i) H) ∨ ∃ k, xs = [.bl k] ∧ Q (.int (if k then 1 else 0)) H) dIntS := by
  intro xs ds H Z Q σ z r h
  cases r with
  | nil => exact False.elim h
  | cons r1 r2 =>
    cases r2 with
    | cons _ _ => cases r1 <;> exact False.elim h
    | nil =>
      cases r1 with
      | int i => exact .inr (.inl ⟨i, rfl, Post.ok (R := RE S) h (.int _)⟩)
      | bl k => exact .inr (.inr ⟨k, rfl, Post.ok (R := RE S) h (.int _)⟩)
      | str x =>
        have h : Post S (RE S) σ Z H Q (match PySem.intText? x with | some n => if x.length ≤ 640 then .ok (.int n) else .un | none => .un) := h
        cases e : PySem.intText? x with
        | none => rw [e] at h; exact False.elim h
        | some n =>
          rw [e] at h
          dsimp only at h
          split at h
          · rename_i hl
            exact .inl ⟨x, n, rfl, e, hl, Post.ok (R := RE S) h (.int _)⟩
          · exact False.elim h
      | _ => exact False.elim h
theorem call_intA : CallR X (.type "int") (fun xs H Q => (∃ a n, xs = [.str a] ∧ PySem.intText? a = some n ∧ a.length ≤ 640 ∧ Q (.int n) H) ∨ (∃ i, xs = [.int i] ∧ Q (.int i) H) ∨ ∃ k, xs = [.bl k] ∧ Q (.int (if k then 1 else 0)) H) := call_int_str.or call_int1
/-- sep.join(a list of texts) -/
theorem se_join {p1 p2 : Pos} (ha : SemE S a fa) (hb : SemE S b fb) (hs : ∀ env, starEach [b] env = [(false, eval b env)] := by intro _; rfl) (hbase : ∀ env, attributeBase a "join" env (eval a env) = eval a env := by intro _; rfl) (hline : (p1.endLine == p2.line) = true := by rfl) :
    SemE S (.Call (.Attribute a "join" p1) [b] [] p2) (joinM fa fb) := by
  obtain ⟨ta, pa, qa⟩ := ha.ex
  obtain ⟨tb, pb, qb⟩ := hb.ex
  refine ⟨⟨tM1 (fun x xs H Q => ∃ a p, ∃ ys : List Str, x = .str a ∧ xs = [.ref p] ∧ (SqL S.K H p (ys.map V.str) ∨ SqT S.K H p (ys.map V.str)) ∧ (ys.map (·.length)).sum + ys.length * a.length ≤ 16777216 ∧ Q (.str (Txt.join a ys)) H) ta tb, fun X hX => ?_, fun η σ H Z Q z hη h => ?_⟩⟩
  · rw [← hX.hK]
    exact pe_join (pa X hX) (pb X hX) (hs _) (hbase _) hline
  · refine qa η σ H Z _ z hη (Post.bind h fun d x H1 _ e1 r1 h1 => ?_)
    by_cases hd : isStr d = true
    · rw [if_pos hd] at h1
      obtain ⟨sp, rfl⟩ := isStr_eq hd
      cases r1
      refine ⟨⟨sp, rfl⟩, ?_⟩
      refine qb η σ H1 Z _ (z.gr e1) (hη.gr (e1.hid Z)) (Post.bind h1 fun e y H2 _ e2 r2 h2 => ?_)
      cases r2 with
      | @lst p vs ds g1 g2 =>
        have h2 : Post S (RE S) σ Z H2 Q (match strsOf ds with | some ks => if (ks.map (·.length)).sum + ks.length * sp.length ≤ 16000000 then .ok (.str (Txt.join sp ks)) else .un | none => .un) := h2
        cases eq : strsOf ds with
        | none => rw [eq] at h2; exact False.elim h2
        | some ks =>
          rw [eq] at h2
          obtain rfl := strsOf_eq eq
          obtain rfl := RpA.isStrs g2
          have q0 : dJoin (.str sp) (.list (ks.map .str)) = if (ks.map (·.length)).sum + ks.length * sp.length ≤ 16000000 then .ok (.str (Txt.join sp ks)) else .un := by unfold dJoin; simp only [strsOf_map]
          have h2 : Post S (RE S) σ Z H2 Q (dJoin (.str sp) (.list (ks.map .str))) := h2
          rw [q0] at h2
          split at h2
          · rename_i hl
            exact ⟨sp, p, ks, rfl, rfl, .inl ((Gr.hid_le H2 Z).rdl g1).sq, Nat.le_trans hl (by decide), Post.ok (R := RE S) h2 (.str _)⟩
          · exact False.elim h2
      | _ => exact False.elim h2
    · rw [if_neg hd] at h1
      exact False.elim h1
/-- x.split(sep): a new list -/
theorem sf_split {p1 p2 : Pos} (ha : SemE S a fa) (hb : SemE S b fb) (hs : ∀ env, starEach [b] env = [(false, eval b env)] := by intro _; rfl) (hbase : ∀ env, attributeBase a "split" env (eval a env) = eval a env := by intro _; rfl) (hline : (p1.endLine == p2.line) = true := by rfl) :
    SemF S (.Call (.Attribute a "split" p1) [b] [] p2) (splitM fa fb) := by
  obtain ⟨ta, pa, qa⟩ := ha.ex
  obtain ⟨tb, pb, qb⟩ := hb.ex
  refine ⟨⟨tM1 (fun x xs H Q => ∃ a b, x = .str a ∧ xs = [.str b] ∧ (b.length == 0) = false ∧ a.length + 2 ≤ sizeLine ∧ rNewStrs (Txt.split a b) H Q) ta tb, fun X hX => ?_, fun η σ H Z Q z hη h => ?_⟩⟩
  · exact pe_split (pa X hX) (pb X hX) (hs _) (hbase _) hline
  · refine qa η σ H Z _ z hη (Post.bind h fun d x H1 _ e1 r1 h1 => ?_)
    by_cases hd : isStr d = true
    · rw [if_pos hd] at h1
      obtain ⟨sp, rfl⟩ := isStr_eq hd
      cases r1
      refine ⟨⟨sp, rfl⟩, ?_⟩
      refine qb η σ H1 Z _ (z.gr e1) (hη.gr (e1.hid Z)) (Post.bind h1 fun e y H2 _ e2 r2 h2 => ?_)
      cases r2 with
      | str y =>
        have h2 : Post S (fun H' (p : Addr × List V) ds => RpA S.c H' p.2 ds) σ Z H2 (fun p H' => H' p.1 = none → Q (.ref p.1) (upd H' p.1 (.lst p.2))) (if (y.length == 0) = false ∧ sp.length + 2 ≤ 16000000 then .ok ((Txt.split sp y).map .str) else .un) := h2
        split at h2
        · rename_i hc
          exact ⟨sp, y, rfl, rfl, hc.1, line_of hc.2, fun p hp => h2 (p, (Txt.split sp y).map V.str) H2 (Gr.refl H2) (RpA.ofStrs _) hp⟩
        · exact False.elim h2
      | _ => exact False.elim h2
    · rw [if_neg hd] at h1
      exact False.elim h1
/-- one sign of a text -/
theorem o2_ixS : Op2 S (fun x y H Q => ∃ z i c, x = .str z ∧ y = .int i ∧ 0 ≤ i ∧ i < 2 ^ 63 ∧ i < z.length ∧ z.cps[i.toNat]? = some c ∧ Q (.str ⟨#[c]⟩) H) dIxS := by
  intro x y a b H Z Q σ z ra rb h
  cases ra with
  | str t =>
    cases rb with
    | int i =>
      have h : Post S (RE S) σ Z H Q (if 0 ≤ i ∧ i < t.length ∧ t.length ≤ 16000000 then match t.cps[i.toNat]? with | some c => .ok (.str ⟨#[c]⟩) | none => .un else .un) := h
      split at h
      · rename_i hc
        cases e : t.cps[i.toNat]? with
        | none => rw [e] at h; exact False.elim h
        | some c =>
          rw [e] at h
          exact ⟨t, i, c, rfl, rfl, hc.1, by omega, hc.2.1, e, Post.ok (R := RE S) h (.str _)⟩
      · exact False.elim h
    | _ => exact False.elim h
  | _ => exact False.elim h
theorem se_ixS (ha : SemE S a fa) (hb : SemE S b fb) (hs : PlainIxT b := by intro _ _; rfl) : SemE S (.Subscript a b pos) (bi2 dIxS fa fb) := by
  obtain ⟨ta, pa, qa⟩ := ha.ex
  obtain ⟨tb, pb, qb⟩ := hb.ex
  exact ⟨⟨_, fun X hX => pe_item_str (pa X hX) (pb X hX) hs, bin_run o2_ixS qa qb⟩⟩
/-- a part of a text -/
theorem se_sliceS {lo hi : Option Expr} {fl fh : Vw → Rv (Option Int)} {p2 : Pos} (ha : SemE S a fa) (hl : SemO S lo fl) (hh : SemO S hi fh) : SemE S (.Subscript a (.Slice lo hi none p2) pos) (slcS fa fl fh) := by
  obtain ⟨ta, pa, qa⟩ := ha.ex
  obtain ⟨tl, pl, ql⟩ := hl.ex
  obtain ⟨th, ph, qh⟩ := hh.ex
  refine ⟨⟨_, fun X hX => pe_slice (r := rSlS) sl_str (pa X hX) (pl X hX) (ph X hX), fun η σ H Z Q z hη h => ?_⟩⟩
  refine qa η σ H Z _ z hη (Post.bind h fun d x H1 _ e1 r1 h1 => ?_)
  refine ql η σ H1 Z _ (z.gr e1) (hη.gr (e1.hid Z)) (Post.bind h1 fun l y H2 _ e2 r2 h2 => ?_)
  refine qh η σ H2 Z _ ((z.gr e1).gr e2) (hη.gr ((e1.trans e2).hid Z)) (Post.bind h2 fun u w H3 _ e3 r3 h3 => ?_)
  cases (show y = l from r2)
  cases (show w = u from r3)
  cases r1 with
  | str t =>
    have h3 : Post S (RE S) σ Z H3 Q (if t.length ≤ 16000000 then .ok (.str (cutS t l u)) else .un) := h3
    split at h3
    · rename_i hc
      exact ⟨t, rfl, line_of hc, Post.ok (R := RE S) h3 (.str _)⟩
    · exact False.elim h3
  | _ => exact False.elim h3
end
end Bv

namespace Bv
open PySem PySem.Spec L2 PyProof.Rows

/-! ### in, of lists, tuples, texts -/
def flatD : D → Bool
  | .none => true
  | .bool _ => true
  | .int _ => true
  | .str _ => true
  | _ => false
/-- == of flat data -/
def eqF : D → D → Bool
  | .none, .none => true
  | .bool a, .bool b => a == b
  | .bool a, .int b => (if a then 1 else 0) == b
  | .int a, .bool b => a == (if b then 1 else 0)
  | .int a, .int b => a == b
  | .str a, .str b => a == b
  | _, _ => false
def dInQ : D → D → Rv D
  | .str x, .str y => .ok (.bool (!(Builtin.Str.occurrences y x 0 y.length 1).isEmpty))
  | a, .list ds => if shp a = true ∧ shp (.list ds) = true then .ok (.bool (ds.any fun z => PyData.eqv z a)) else .un
  | a, .tuple ds => if flatD a = true ∧ ds.all flatD = true then .ok (.bool (ds.any fun z => eqF z a)) else .un
  | _, _ => .un
def dNotInQ (a b : D) : Rv D := (dInQ a b).bind fun d => match d with | .bool k => .ok (.bool !k) | _ => .un
theorem Rp.flat {c : Cz} {H : Hp} {v : V} {d : D} (r : Rp c H v d) (h : flatD d = true) : flatV v = true := by
  cases d <;> first | (exact absurd (show false = true from h) Bool.false_ne_true) | (cases r; rfl)
theorem RpA.flat {c : Cz} {H : Hp} : ∀ {ds : List D} {vs : List V}, RpA c H vs ds → ds.all flatD = true → vs.all flatV = true
  | [], _, h, _ => by cases h; rfl
  | d :: ds, _, h, f => by
    cases h with
    | cons h1 h2 =>
      rw [List.all_cons, Bool.and_eq_true] at f
      rw [List.all_cons, h1.flat f.1, RpA.flat h2 f.2]; rfl
theorem Rp.eqF {c : Cz} {H : Hp} {v w : V} {d e : D} (r : Rp c H v d) (s : Rp c H w e) (h : flatD d = true) (g : flatD e = true) : eqV v w = Bv.eqF d e := by
  cases d <;> first | (exact absurd (show false = true from h) Bool.false_ne_true) | (cases e <;> first | (exact absurd (show false = true from g) Bool.false_ne_true) | (cases r; cases s; rfl))
theorem RpA.isIn {c : Cz} {H : Hp} {w : V} {e : D} (s : Rp c H w e) (g : flatD e = true) : ∀ {ds : List D} {vs : List V}, RpA c H vs ds → ds.all flatD = true → inV w vs = ds.any fun z => Bv.eqF z e
  | [], _, h, _ => by cases h; rfl
  | d :: ds, _, h, f => by
    cases h with
    | cons h1 h2 =>
      rw [List.all_cons, Bool.and_eq_true] at f
      have := RpA.isIn s g h2 f.2
      unfold inV at *
      rw [List.any_cons, List.any_cons, this, h1.eqF s f.1 g]
/-- a text by its global name -/
def GStr (T : Wd) (x : Str) (i : Str) : Prop := ∃ t, T.mg x = some (.str i t)
def boolsOf : List D → Option (List Bool)
  | [] => some []
  | .bool x :: r => (boolsOf r).map (x :: ·)
  | _ => none
theorem boolsOf_map : ∀ (ns : List Bool), boolsOf (ns.map .bool) = some ns
  | [] => rfl
  | n :: ns => by rw [List.map_cons, boolsOf, boolsOf_map ns]; rfl
theorem boolsOf_eq : ∀ {xs : List D} {ns : List Bool}, boolsOf xs = some ns → xs = ns.map .bool
  | [], ns, h => by cases h; rfl
  | d :: ds, ns, h => by
    cases d with
    | bool x =>
      have h : (boolsOf ds).map (x :: ·) = some ns := h
      cases e : boolsOf ds with
      | none => rw [e] at h; cases h
      | some m => rw [e] at h; cases h; rw [boolsOf_eq e]; rfl
    | _ => cases h
theorem RpA.isBls {c : Cz} {H : Hp} : ∀ {ns : List Bool} {vs : List V}, RpA c H vs (ns.map .bool) → vs = ns.map .bl
  | [], _, h => by cases h; rfl
  | n :: ns, _, h => by
    cases h with
    | cons h1 h2 => cases h1; rw [RpA.isBls h2]; rfl
def dAll : List D → Rv D
  | [.list xs] => match boolsOf xs with | some ns => .ok (.bool (ns.all id)) | none => .un
  | _ => .un
theorem dAll_b (ns : List Bool) : dAll [.list (ns.map .bool)] = .ok (.bool (ns.all id)) := by
  show (match boolsOf (ns.map .bool) with | some ns => Rv.ok (PyData.bool (ns.all id)) | none => .un) = _
  rw [boolsOf_map]
section
variable {X : Cx} {S : Sx} {a b : Expr} {fa fb : Vw → Rv D} {pos : Pos}
def rInQ (K : PySem.W.Frag) : R2 := fun x y H Q => (∃ i j, x = .str i ∧ y = .str j ∧ Q (.bl (!(Builtin.Str.occurrences j i 0 j.length 1).isEmpty)) H) ∨ rInD K x y H Q ∨ rIn K false x y H Q
def rNotInQ (K : PySem.W.Frag) : R2 := fun x y H Q => (∃ i j, x = .str i ∧ y = .str j ∧ Q (.bl (!(!(Builtin.Str.occurrences j i 0 j.length 1).isEmpty))) H) ∨ rNotInD K x y H Q ∨ rIn K true x y H Q
theorem op_inQ (hu : X.A.units + 65 < cLine) : OpR X (compareOp .In) (rInQ X.K) := op_in_str.or ((op_inD hu).or op_in_seq)
theorem op_notInQ (hu : X.A.units + 65 < cLine) : OpR X (compareOp .NotIn) (rNotInQ X.K) := op_notIn_str.or ((op_notInD hu).or op_notIn_seq)
theorem dInQ_at (a b : D) : (∃ x y, a = .str x ∧ b = .str y ∧ dInQ a b = .ok (.bool (!(Builtin.Str.occurrences y x 0 y.length 1).isEmpty))) ∨ (∃ ds, b = .list ds ∧ shp a = true ∧ shp (.list ds) = true ∧ dInQ a b = .ok (.bool (ds.any fun z => PyData.eqv z a))) ∨ (∃ ds, b = .tuple ds ∧ flatD a = true ∧ ds.all flatD = true ∧ dInQ a b = .ok (.bool (ds.any fun z => Bv.eqF z a))) ∨ dInQ a b = .un := by
  unfold dInQ
  split
  · exact .inl ⟨_, _, rfl, rfl, rfl⟩
  · split
    · rename_i h; exact .inr (.inl ⟨_, rfl, h.1, h.2, rfl⟩)
    · exact .inr (.inr (.inr rfl))
  · split
    · rename_i h; exact .inr (.inr (.inl ⟨_, rfl, h.1, h.2, rfl⟩))
    · exact .inr (.inr (.inr rfl))
  · exact .inr (.inr (.inr rfl))
theorem o2_inQ : Op2 S (rInQ S.K) dInQ := by
  intro x y a b H Z Q σ z ra rb h
  rcases dInQ_at a b with ⟨i, j, rfl, rfl, e⟩ | ⟨ds, rfl, sa, sb, e⟩ | ⟨ds, rfl, fa, fs, e⟩ | e
  · cases ra; cases rb
    rw [e] at h
    exact .inl ⟨i, j, rfl, rfl, Post.ok (R := RE S) h (.bl _)⟩
  · rw [e] at h
    rw [shp, Bool.and_eq_true] at sa sb
    exact .inr (.inl ⟨a, ds, Rp.dp sa.1 (ra.gr (Gr.hid_le H Z)), Rp.dp sb.1 (rb.gr (Gr.hid_le H Z)), sa.2, sb.2, Post.ok (R := RE S) h (.bl _)⟩)
  · rw [e] at h
    cases rb with
    | @tup p vs _ h1 h2 =>
      refine .inr (.inr ⟨p, vs, rfl, .inr ((Gr.hid_le H Z).sqT h1), ra.flat fa, h2.flat fs, ?_⟩)
      rw [if_neg (by decide), h2.isIn ra fa fs]
      exact Post.ok (R := RE S) h (.bl _)
  · rw [e] at h; exact False.elim h
theorem o2_notInQ : Op2 S (rNotInQ S.K) dNotInQ := by
  intro x y a b H Z Q σ z ra rb h
  unfold dNotInQ at h
  rcases dInQ_at a b with ⟨i, j, rfl, rfl, e⟩ | ⟨ds, rfl, sa, sb, e⟩ | ⟨ds, rfl, fa, fs, e⟩ | e
  · cases ra; cases rb
    rw [e] at h
    exact .inl ⟨i, j, rfl, rfl, Post.ok (R := RE S) h (.bl _)⟩
  · rw [e] at h
    rw [shp, Bool.and_eq_true] at sa sb
    exact .inr (.inl ⟨a, ds, Rp.dp sa.1 (ra.gr (Gr.hid_le H Z)), Rp.dp sb.1 (rb.gr (Gr.hid_le H Z)), sa.2, sb.2, Post.ok (R := RE S) h (.bl _)⟩)
  · rw [e] at h
    cases rb with
    | @tup p vs _ h1 h2 =>
      refine .inr (.inr ⟨p, vs, rfl, .inr ((Gr.hid_le H Z).sqT h1), ra.flat fa, h2.flat fs, ?_⟩)
      rw [if_pos rfl, h2.isIn ra fa fs]
      exact Post.ok (R := RE S) h (.bl _)
  · rw [e] at h; exact False.elim h
theorem se_inQ (ha : SemE S a fa) (hb : SemE S b fb) (hm : behindInMarks .In b = false := by rfl) : SemE S (.Compare a [.In] [b] pos) (bi2 dInQ fa fb) := se_cmp (fun X hX => hX.hK ▸ op_inQ (by have := hX.units; omega)) o2_inQ ha hb hm
theorem st_inQ (ha : SemE S a fa) (hb : SemE S b fb) (hm : behindInMarks .In b = false := by rfl) : SemT S (.Compare a [.In] [b] pos) (asB (bi2 dInQ fa fb)) := st_cmp (fun X hX => hX.hK ▸ op_inQ (by have := hX.units; omega)) o2_inQ ha hb hm
theorem se_notinQ (ha : SemE S a fa) (hb : SemE S b fb) (hm : behindInMarks .NotIn b = false := by rfl) : SemE S (.Compare a [.NotIn] [b] pos) (bi2 dNotInQ fa fb) := se_cmp (fun X hX => hX.hK ▸ op_notInQ (by have := hX.units; omega)) o2_notInQ ha hb hm
theorem st_notinQ (ha : SemE S a fa) (hb : SemE S b fb) (hm : behindInMarks .NotIn b = false := by rfl) : SemT S (.Compare a [.NotIn] [b] pos) (asB (bi2 dNotInQ fa fb)) := st_cmp (fun X hX => hX.hK ▸ op_notInQ (by have := hX.units; omega)) o2_notInQ ha hb hm
theorem se_gstr {x : Str} {i : Str} {pos : Pos} (hm : GStr S.toWd x i) (hg : S.sc.names.lookup x = some .globalImplicit := by rfl) (hd : (x == ("__debug__" : Str)) = false := by decide) : SemE S (.Name x pos) (cst (.str i)) := by
  refine ⟨⟨tC (.str i), fun X hX => ?_, fun η σ H Z Q z hη h => ?_⟩⟩
  · obtain ⟨t, ht⟩ := hm
    exact pe_glob (by show X.env.scope.names.lookup x = _; rw [hX.hsc]; exact hg) (by rw [hX.hmg]; exact ht) ⟨_, rfl⟩ hd
  · exact Post.ok (R := RE S) h (.str i)
theorem on_all : OpN S (rAll S.K) dAll := by
  intro xs ds H Z Q σ z r h
  cases r with
  | nil => exact False.elim h
  | cons r1 r2 =>
    cases r2 with
    | cons _ _ => cases r1 <;> exact False.elim h
    | nil =>
      cases r1 with
      | @lst a vs ds h1 h2 =>
        have hh : Post S (RE S) σ Z H Q (match boolsOf ds with | some ns => .ok (.bool (ns.all id)) | none => .un) := h
        cases e : boolsOf ds with
        | none => rw [e] at hh; exact False.elim hh
        | some ns =>
          rw [e] at hh
          obtain rfl := boolsOf_eq e
          obtain rfl := RpA.isBls h2
          exact ⟨a, ns, rfl, ((Gr.hid_le H Z).rdl h1).sq, Post.ok (R := RE S) hh (.bl _)⟩
      | _ => exact False.elim h
end
end Bv

namespace Bv
open PySem PySem.Spec L2 PyProof.Rows
theorem TreeA.extI {c : Cz} {Hv H : Hp} {n : Nat} : ∀ {es : List D} {zs : List V} {xs : List V} {ds : List D} {U : List Addr}, RpA c Hv zs es → immA es = true → TreeA c Hv H n xs ds U → TreeA c Hv H n (xs ++ zs) (ds ++ es) U
  | [], _, xs, ds, U, r, _, t => by cases r; simpa using t
  | e :: es, _, xs, ds, U, r, i, t => by
    cases r with
    | @cons z zs _ _ r1 r2 =>
      have i : imm e = true ∧ immA es = true := by simpa [immA] using i
      have := TreeA.extI r2 i.2 (TreeA.snoc (.leaf i.1 r1) t)
      simpa using this
section
variable {S : Sx}
/-! ### x.extend(f(..)) -/
def ext (j : Nat) (M : List Nat) (f : Vw → Rv D) (ρ : Env') : Res := match ρ[j]? with
  | some (.ow (n + 1) (.list xs)) => (f (vw M ρ)).st fun d => match d with
    | .list es => if xs.length + es.length < 16000000 ∧ immA es = true then .nx (ρ.set j (.ow (n + 1) (.list (xs ++ es)))) else .un
    | _ => .un
  | _ => .un
theorem ss_ext {j : Nat} {x : Str} {e : Expr} {f : Vw → Rv D} {p1 p2 p3 p4 : Pos} (M : List Nat) (he : SemX S 1 e f) (hN : S.N[j]? = some x := by rfl) (hv : Vis S.sc x := by first | exact Or.inl rfl | exact Or.inr (Or.inl rfl) | exact Or.inr (Or.inr rfl)) (hd : (x == ("__debug__" : Str)) = false := by decide)
    (hcd : (x == ("__classdict__" : Str)) = false := by decide) (hbase : ∀ env, attributeBase (.Name x p1) "extend" env (eval (.Name x p1) env) = eval (.Name x p1) env := by intro _; rfl)
    (hfew : ∀ env, ((backTo p3 (starEach [e] env)).all (fun x => !x.1) && (backToKw p3 (keywordEach [] env)).all (fun x => x.1.isSome)
      && decide (([e] : List Expr).length + ([] : List Keyword).length + (if ([] : List Keyword).isEmpty then 0 else 1) < 30)) = true := by intro _; rfl)
    (hline : (p2.endLine == p3.line) = true := by rfl) (hs : ∀ env, starEach [e] env = (false, eval e env) :: starEach [] env := by intro _; rfl) (hplain : ∀ env, (backTo p3 (starEach [] env)).any (·.1) = false := by intro _; rfl)
    (hsw : ∀ env, swapsWith (.Call (.Attribute (.Name x p1) "extend" p2) [e] [] p3) none p4.line env = pure false := by intro _; rfl) : SemS S (.Expr (.Call (.Attribute (.Name x p1) "extend" p2) [e] [] p3) p4) (ext j M f) := by
  obtain ⟨t, p, q⟩ := he.ex
  refine ⟨⟨tDrop (tBM S.K "list" rExtend (tVar j) (tCons t tNil)), fun X hX => ?_, fun ρ F H0 Z σ H Dn ⟨o, k⟩ h => ?_⟩⟩
  · rw [← hX.hK]
    exact ps_expr (pe_bm PySem.F.plainAttrs_list PySem.F.slot_list_extend PySem.F.type_list_extend mt_extend (pe_var (by rw [hX.hN]; exact hN) (by rw [hX.hsc]; exact hv) hd hcd) (pa_cons (p X hX) pa_nil (hs _)) (hbase _) (hfew _) hline (hs _) (hplain _)) (hsw _)
  unfold ext at h
  split at h
  · rename_i n xs hj
    obtain ⟨⟨v0, s1, tr⟩, s2⟩ := k.ow j _ _ hj
    obtain ⟨a, vs, W, rfl, hU, s4, s5, s6⟩ := tr.isL
    refine ⟨_, s1, .inl ⟨rfl, vs, .inl (.inl s4)⟩, ?_⟩
    refine q (vw M ρ) σ H (hz Z ρ o M) _ k.hin k.view (run_x k h fun d v H' Uv _ g hUv tv h' => ?_)
    have k' := k.grow g
    obtain ⟨⟨v0', s1', tr'⟩, s2'⟩ := k'.ow j _ _ hj
    rw [s1] at s1'
    cases s1'
    obtain ⟨a', vs', W', ea, hU', w4, w5, w6⟩ := tr'.isL
    cases ea
    have hl := TreeA.length w5
    split at h'
    · rename_i es hes
      split at h'
      · rename_i hlt
        obtain ⟨b, zs, Wb, rfl, rfl, b4, b5, b6⟩ := tv.isL
        have hlz := TreeA.length b5
        have rz : RpA S.c (hid H' (hz Z ρ o M)) zs es := TreeA.rp ((Gr.refl H').hid2 fun a h => .inl h) (fun a ha => hid_no fun y => k.hin a y (hUv a (List.mem_cons_of_mem _ ha))) b5
        refine ⟨a, b, vs', zs, rfl, rfl, w4, b4, line_of (by omega), ?_⟩
        have hne : ∀ b, b ∉ o j → upd H' a (.lst (vs' ++ zs)) b = H' b := fun b hb => upd_ne fun z => hb (by rw [hU', z]; exact List.mem_cons_self)
        have hW : ∀ b ∈ W', upd H' a (.lst (vs' ++ zs)) b = H' b := fun b hb => upd_ne fun z => w6 (z ▸ hb)
        refine h' _ _ ⟨o, k'.change hj s1 hne fun Hv e => ?_⟩
        rw [hU']
        exact .lst upd_same (TreeA.extI (RpA.gr e (k'.immA hlt.2 rz)) hlt.2 (TreeA.gr e hW w5)) w6
      · exact False.elim h'
    · exact False.elim h'
  · exact False.elim h
/-! ### list(range(a, b)) -/
def rgF (fa fb : Vw → Rv D) (η : Vw) : Rv (List D) := (fa η).bind fun a => (fb η).bind fun b => match a, b with
  | .int i, .int j => if rngOk i = true ∧ rngOk j = true ∧ (j - i).toNat ≤ 16000000 then .ok (rangeD i j) else .un
  | _, _ => .un
theorem RpA.rg {c : Cz} {H : Hp} (i j : Int) : RpA c H (rgV i j) (rangeD i j) := by
  unfold rgV rangeD
  generalize List.range (j - i).toNat = l
  induction l with
  | nil => exact .nil
  | cons x l ih => exact .cons (.int _) ih
theorem sf_listRg {a b : Expr} {fa fb : Vw → Rv D} {p p2 pos pos2 : Pos} (hm : S.mg "list" = none) (hm2 : S.mg "range" = none) (ha : SemE S a fa) (hb : SemE S b fb) (hg : S.sc.names.lookup ("list" : Str) = some .globalImplicit := by rfl) (hg2 : S.sc.names.lookup ("range" : Str) = some .globalImplicit := by rfl)
    (hs : ∀ env, starEach [a, b] env = (false, eval a env) :: starEach [b] env := by intro _; rfl) (hsb : ∀ env, starEach [b] env = (false, eval b env) :: starEach [] env := by intro _; rfl) (hp : ∀ env, (backTo pos2 (starEach [b] env)).any (·.1) = false := by intro _; rfl)
    (hs2 : ∀ env, starEach [.Call (.Name "range" p2) [a, b] [] pos2] env = (false, eval (.Call (.Name "range" p2) [a, b] [] pos2) env) :: starEach [] env := by intro _; rfl) :
    SemF S (.Call (.Name "list" p) [.Call (.Name "range" p2) [a, b] [] pos2] [] pos) (rgF fa fb) := by
  obtain ⟨ta, pa, qa⟩ := ha.ex
  obtain ⟨tb, pb, qb⟩ := hb.ex
  refine ⟨⟨tLstRg (tRg2 ta tb), fun X hX => ?_, fun η σ H Z Q z hη h => ?_⟩⟩
  · have g1 : Gl X "list" := by show X.env.scope.names.lookup _ = _; rw [hX.hsc]; exact hg
    have g2 : Gl X "range" := by show X.env.scope.names.lookup _ = _; rw [hX.hsc]; exact hg2
    exact pe_listRg hX.calm g1 (by rw [hX.hmg]; exact hm) (prg_2 g2 (by rw [hX.hmg]; exact hm2) (pa X hX) (pb X hX) (hs _) (hsb _) (hp _)) (hs2 _)
  · refine qa η σ H Z _ z hη (Post.bind h fun d x H1 _ e1 r1 h1 => ?_)
    refine qb η σ H1 Z _ (z.gr e1) (hη.gr (e1.hid Z)) (Post.bind h1 fun e y H2 _ e2 r2 h2 => ?_)
    cases r1 with
    | int i =>
      cases r2 with
      | int j =>
        have h2 : Post S (fun H' (p : Addr × List V) ds => RpA S.c H' p.2 ds) σ Z H2 (fun p H' => H' p.1 = none → Q (.ref p.1) (upd H' p.1 (.lst p.2))) (if rngOk i = true ∧ rngOk j = true ∧ (j - i).toNat ≤ 16000000 then .ok (rangeD i j) else .un) := h2
        split at h2
        · rename_i hc
          have h3 := of_decide_eq_true hc.1
          have h4 := of_decide_eq_true hc.2.1
          exact ⟨i, j, rfl, rfl, ⟨h3.1, h3.2, h4.1, h4.2, by omega⟩, fun p hp => h2 (p, rgV i j) H2 (Gr.refl H2) (RpA.rg i j) hp⟩
        · exact False.elim h2
      | _ => exact False.elim h2
    | _ => exact False.elim h2
end
end Bv

namespace Bv
open PySem PySem.Spec L2 PyProof.Rows
section
variable {S : Sx}
/-! ### x[i].insert(a, e) -/
def insP (j : Nat) (M : List Nat) (fp : Vw → Nat → D → Rv Foc) (f : Vw → Rv (List D)) (ρ : Env') : Res := match ρ[j]? with
  | some (.ow n d) => (fp (vw [] ρ) n d).st fun p => match p with
    | (_ + 1, .list xs, put) => (f (vw M ρ)).st fun ds => match ds with
      | [.int i, y] => if xs.length < 16000000 ∧ 0 ≤ i ∧ i < 1000000000 ∧ imm y = true then .nx (ρ.set j (.ow n (put (.list (xs.take i.toNat ++ [y] ++ xs.drop i.toNat))))) else .un
      | _ => .un
    | _ => .un
  | _ => .un
theorem ss_insP {j : Nat} {b : Expr} {a e : Expr} {fp : Vw → Nat → D → Rv Foc} {f : Vw → Rv (List D)} {p2 p3 p4 : Pos} (M : List Nat) (hb : SemPa S j b fp) (he : SemA S [a, e] f) (hbase : ∀ env, attributeBase b "insert" env (eval b env) = eval b env := by intro _; rfl)
    (hfew : ∀ env, ((backTo p3 (starEach [a, e] env)).all (fun x => !x.1) && (backToKw p3 (keywordEach [] env)).all (fun x => x.1.isSome)
      && decide (([a, e] : List Expr).length + ([] : List Keyword).length + (if ([] : List Keyword).isEmpty then 0 else 1) < 30)) = true := by intro _; rfl)
    (hline : (p2.endLine == p3.line) = true := by rfl) (hs : ∀ env, starEach [a, e] env = (false, eval a env) :: starEach [e] env := by intro _; rfl) (hplain : ∀ env, (backTo p3 (starEach [e] env)).any (·.1) = false := by intro _; rfl)
    (hsw : ∀ env, swapsWith (.Call (.Attribute b "insert" p2) [a, e] [] p3) none p4.line env = pure false := by intro _; rfl) : SemS S (.Expr (.Call (.Attribute b "insert" p2) [a, e] [] p3) p4) (insP j M fp f) := by
  obtain ⟨tb, pb, qb⟩ := hb.ex
  obtain ⟨t, p, q⟩ := he.ex
  refine ⟨⟨tDrop (tBM S.K "list" rIns tb t), fun X hX => ?_, fun ρ F H0 Z σ H Dn ⟨o, k⟩ h => ?_⟩⟩
  · rw [← hX.hK]
    exact ps_expr (pe_bm PySem.F.plainAttrs_list PySem.F.slot_list_insert PySem.F.type_list_insert mt_insert (pb X hX) (p X hX) (hbase _) (hfew _) hline (hs _) (hplain _)) (hsw _)
  unfold insP at h
  split at h
  · rename_i n d hj
    obtain ⟨⟨v0, s1, tr⟩, s2⟩ := k.ow j _ _ hj
    refine qb (vw [] ρ) σ H (hz Z ρ o []) n d v0 (o j) _ k.hin k.view s1 tr ?_
    cases ep : fp (vw [] ρ) n d with
    | un => rw [ep] at h; exact h
    | xc x => rw [ep] at h; exact fun cls dx H' e q => h cls dx σ H' (k.gr.trans e) (k.out e) (q.gr ((Gr.refl H').hid2 fun a z => .inl z))
    | ok pp =>
      obtain ⟨m, d', put⟩ := pp
      rw [ep] at h
      simp only [Rv.st_ok] at h
      intro v' U' H1 g1 zp
      split at h
      · rename_i m' xs put' hq
        cases hq
        obtain ⟨a, vs, W, rfl, rfl, s4, s5, s6⟩ := zp.tree.isL
        refine ⟨.inl ⟨rfl, vs, .inl (.inl s4)⟩, ?_⟩
        have k1 := k.grow g1
        refine q (vw M ρ) σ H1 (hz Z ρ o M) _ k1.hin k1.view (run_eg (R := RA S) k1 h fun ds v H' _ g2 k' r h' => ?_)
        have zp' := zp.gr (H' := H') (g2.hid (hz Z ρ o [])) fun a ha => by rw [tr.same (g1.trans g2) ha, tr.same g1 ha]
        obtain ⟨a', vs', W', ea, hU', w4, w5, w6⟩ := zp'.tree.isL
        cases ea
        cases hU'
        have hl := TreeA.length w5
        split at h'
        · rename_i w0 i y _
          split at h'
          · rename_i hc
            cases r with
            | cons r1 r2 =>
              cases r2 with
              | @cons yv _ _ _ r2 r3 =>
                cases r3
                cases r1
                refine ⟨a, vs', i, yv, rfl, rfl, w4, line_gt (by omega), hc.2.1, by omega, ?_⟩
                have aIn : a ∈ o j := zp'.sub a List.mem_cons_self
                refine h' _ _ ⟨o, k'.change hj s1 (fun b hb => upd_ne fun z => hb (z ▸ aIn)) fun Hv eh => ?_⟩
                refine zp'.back Hv _ _ eh (fun b hb hn => upd_ne fun z => hn (z ▸ List.mem_cons_self)) ?_
                exact .lst upd_same (TreeA.ins (.leaf hc.2.2.2 ((k'.imm hc.2.2.2 r2).gr eh)) i.toNat (TreeA.gr eh (fun b hb => upd_ne fun z => w6 (z ▸ hb)) w5)) w6
          · exact False.elim h'
        · exact False.elim h'
      · exact False.elim h
  · exact False.elim h
end
end Bv

namespace Bv
open PySem PySem.Spec L2 PyProof.Rows
theorem sw_cell {elt : Expr} {gs : List Comprehension} {scope : Scope} {pos py : Pos} {y : Str} {l : Nat} {env : Env} (hy : env.scope.names.lookup y = some .cell) :
    swapsWith (.ListComp elt gs scope pos) (some (.Name y py)) l env = pure false := by
  have ky : env.kindOf y = some .cell := hy
  unfold swapsWith
  simp only [ky]
  have : (some NameKind.cell == some NameKind.local) = false := by decide
  simp only [this, Bool.and_false, Bool.false_and]
section
variable {S : Sx}
/-- x = [..], x one that a block reads -/
theorem ss_setXc {i n : Nat} {x : Str} {elt : Expr} {gs : List Comprehension} {scope : Scope} {lp : Pos} {f : Vw → Rv D} {pos pos' : Pos} (M : List Nat) (he : SemX S n (.ListComp elt gs scope lp) f) (hi : S.N[i]? = some x := by rfl) (hx : L2.Loc S.sc x := by first | exact Or.inl rfl | exact Or.inr rfl) (hst : S.st x = true := by rfl) (hc : S.sc.names.lookup x = some .cell := by rfl) : SemS S (.Assign [.Name x pos'] (.ListComp elt gs scope lp) pos) (asgX i n M f) := by
  obtain ⟨t, p, q⟩ := he.ex
  refine ⟨⟨_, fun X hX => ps_set hX.nd (by rw [hX.hN]; exact hi) (by rw [hX.hsc]; exact hx) (p X hX) (sw_cell (by rw [hX.hsc]; exact hc)) (hX.fnl x hx hst), fun ρ F H0 Z σ H Dn ⟨o, k⟩ h => ?_⟩⟩
  refine q (vw M ρ) σ H (hz Z ρ o M) _ k.hin k.view (run_x k h fun d v H' U _ e hU t h' => ?_)
  split at h'
  · rename_i hl
    refine h' _ _ ⟨_, (k.freeze M).layT e hU (by rw [frz_length]; exact hl) fun Hv eh => t.gr (Gr.trans ((Gr.refl H').hid2 fun a y => ?_) eh) fun _ _ => rfl⟩
    exact y.imp (fun y => (hz_frz a).mp y) id
  · exact False.elim h'
/-- x = [..] of data, x one that a block reads -/
theorem ss_setFc {i : Nat} {x : Str} {elt : Expr} {gs : List Comprehension} {scope : Scope} {lp : Pos} {f : Vw → Rv (List D)} {pos pos' : Pos} (M : List Nat) (he : SemF S (.ListComp elt gs scope lp) f) (hi : S.N[i]? = some x := by rfl) (hx : L2.Loc S.sc x := by first | exact Or.inl rfl | exact Or.inr rfl) (hst : S.st x = true := by rfl) (hc : S.sc.names.lookup x = some .cell := by rfl) : SemS S (.Assign [.Name x pos'] (.ListComp elt gs scope lp) pos) (asgF i M f) := by
  obtain ⟨t, p, q⟩ := he.ex
  refine ⟨⟨_, fun X hX => ps_set hX.nd (by rw [hX.hN]; exact hi) (by rw [hX.hsc]; exact hx) (p X hX) (sw_cell (by rw [hX.hsc]; exact hc)) (hX.fnl x hx hst), fun ρ F H0 Z σ H Dn ⟨o, k⟩ h => ?_⟩⟩
  refine q (vw M ρ) σ H (hz Z ρ o M) _ k.hin k.view (run_e (R := fun H' (p : Addr × List V) ds => RpA S.c H' p.2 ds) k h fun ds v H' _ k' r h' hp => ?_)
  split at h'
  · rename_i hl
    by_cases hm : immA ds = true
    · rw [if_pos hm] at h'
      exact h' _ _ ⟨_, k'.lay hp hl (k'.immA hm r)⟩
    · rw [if_neg hm] at h'
      exact h' _ _ ⟨_, (k'.freeze M).lay hp (by rw [frz_length]; exact hl) (by rw [hid_frz]; exact r)⟩
  · exact False.elim h'
end
end Bv

namespace Bv
open PySem PySem.Spec L2 PyProof.Rows

/-! ### [elt for c in text if ..] -/
theorem walk_Its {z : Str} : Walk (Its z) z.cps.size (fun _ => True) (fun i H x H' => H' = H ∧ ∃ c, z.cps[i]? = some c ∧ x = .str ⟨#[c]⟩) where
  goes := fun i H hi h => hi
  stops := fun H h => Nat.le_refl _
  yields := fun i H x H' hi h y => y
def signs (z : Str) : List D := z.cps.toList.map fun c => .str ⟨#[c]⟩
theorem signs_length (z : Str) : (signs z).length = z.cps.size := by simp [signs]
theorem signs_get {z : Str} {i : Nat} {c : Nat} (h : z.cps[i]? = some c) : (signs z)[i]? = some (.str ⟨#[c]⟩) := by
  unfold signs
  rw [List.getElem?_map, Array.getElem?_toList, h]; rfl
def dSigns : D → Option (List D)
  | .str z => some (signs z)
  | _ => none
@[simp] theorem dSigns_s (z : Str) : dSigns (.str z) = some (signs z) := rfl
def srcS (f : Vw → Rv D) (η : Vw) : Rv (List D) := (f η).bind fun d => match dSigns d with | some xs => .ok xs | none => .un
section
variable {S : Sx}
theorem sc_str {n : Nat} {elt tg iter : Expr} {ifs : List Expr} {scope : Scope} {b : D → Vw → Option Vw} {ft : Vw → Rv Bool} {fe : Vw → Rv D} {f : Vw → Rv D} (own : List (Str × Nat)) (vs : List Nat) (hi : SemE S iter f) (hb : blkC S.N S.sc scope own = true) (hg : SemTv (S.blk scope) tg vs b)
    (ht : SemP (S.blk scope) ifs ft) (he : SemX (S.blk scope) n elt fe) (hv : own.map (·.2) = vs := by rfl) : SemC S n elt tg iter ifs scope (cmp vs b ft fe (srcS f)) := by
  obtain ⟨ti, pi, qi⟩ := hi.ex
  obtain ⟨g, pg, qg⟩ := hg.ex
  obtain ⟨tt, pt, qt⟩ := ht.ex
  obtain ⟨te, pe, qe⟩ := he.ex
  refine ⟨⟨iStr ti, g, tt, te, own, fun X hX => ?_, fun X hX => blkOk_by (by rw [hX.hN, hX.hsc]; exact hb), pg, pt, pe, hv.symm ▸ (fun η σ H Z Q z hη h => ?_)⟩⟩
  · exact pi_str (pi X hX)
  · unfold cmp srcS at h
    refine qi η σ H Z _ z hη ?_
    cases ef : f η with
    | un => rw [ef] at h; exact False.elim h
    | xc x => rw [ef] at h; exact h
    | ok d =>
      rw [ef] at h
      intro v H' e r
      cases r with
      | str t =>
        simp only [Rv.bind_ok, dSigns_s] at h
        split at h
        · rename_i hl
          cases ec : compL b ft fe (signs t) (wipeV vs η) with
          | un => rw [ec] at h; exact False.elim h
          | xc x => exact absurd ec (compL_nox _ _ _)
          | ok fin =>
            rw [ec] at h
            have hf := Nat.le_trans (compL_len ec) hl
            have hp : PostFX S n σ Z H' Q (.ok fin) := h.gr e
            refine ⟨t, rfl, fun Dl hD => ?_⟩
            refine lc_it (walk_Its (z := t)) (fun i H2 => Fills S n H' Z Dl fin (compL b ft fe ((signs t).drop i) (wipeV vs η)) H2) (fill_start hD ec) (fun i H2 _ w => trivial) ?_ ?_
            · rintro i x H2 H3 hlt w ⟨rfl, c, hc, rfl⟩
              have w : Fills S n H' Z Dl fin (compL b ft fe ((signs t).drop i) (wipeV vs η)) H3 := w
              rw [drop_cons (signs_get hc)] at w
              exact fill_turn (scope := scope) qg qt qe (z.gr e) (hη.gr (e.hid Z)) hD hf (.str _) (wipe_wipe σ _) w fun H3 w3 => w3
            · intro H2 w
              have w : Fills S n H' Z Dl fin (compL b ft fe ((signs t).drop t.cps.size) (wipeV vs η)) H2 := w
              rw [← signs_length, List.drop_length] at w
              exact fill_end hD (z.gr e) hp w
        · exact False.elim h
      | _ => exact False.elim h
end
end Bv

namespace Bv
open PySem PySem.Spec L2 PyProof.Rows
/-! ### an exception made, held as a value -/
theorem pe_mkx {X : Cx} {e : Expr} {t : L2.St → Hp → XK → Prop} (h : PMk X e t) : PE X e (fun σ H Q => t σ H fun cls d H' => ∃ C, cls = .ref C ∧ ∀ a, H' a = none → Q (.ref a) (upd H' a (rawE a C d))) := by
  refine ⟨fun pins s σ H Q I q => ?_⟩
  refine wpAny_mono (h pins s σ H _ I q) (fun u s1 hu => ?_) fun _ _ x => x
  obtain ⟨a, oe, vs, sI, H', cls, d, rfl, J, k, hne, ha, hz, hd, h1, na, os, ag, r, C, rfl, q⟩ := hu
  obtain ⟨hI, gI, dI, tI, oI⟩ := sI
  obtain ⟨h', g', d', t', o'⟩ := s1
  have os : o' = oI := os
  exact ⟨.ref a, _, J.call' (ch := []) os (Un.laidN k hne na) (J.hok.laidN k na (rawE_ok ha hz hd)) ag (fun b z => absurd z (by simp)), rfl, q a na⟩
def mkx (x f : Str) (g : Vw → Rv D) (η : Vw) : Rv D := (g η).bind fun d => .ok (excD ⟨x, [(f, d)]⟩)
section
variable {S : Sx}
theorem se_mkx0 {x m : Str} {j} {p p2 pos : Pos} (R : Rais0 S.toWd x) (hg : S.sc.names.lookup x = some .globalImplicit := by rfl) (hdb : (x == ("__debug__" : Str)) = false := by decide) :
    SemE S (.Call (.Name x p) [.Constant (.str m) j p2] [] pos) (cst (excD ⟨x, []⟩)) := by
  obtain ⟨C, r1, r2, r3, r4, r5⟩ := R.ex
  refine ⟨⟨_, fun X hX => pe_mkx (pmk_own PySem.F.excBase_ValueError (by rw [hX.hK]; exact r2) (by rw [hX.hmg]; exact r1) (by rw [hX.hK]; exact r3) (raises_own (by rw [hX.hK]; exact r4) (by rw [hX.hK]; exact r5)) (by show X.env.scope.names.lookup x = _; rw [hX.hsc]; exact hg) hdb), fun η σ H Z Q z hη h => ?_⟩⟩
  refine ⟨C, rfl, fun a na => ?_⟩
  exact h _ _ (Gr.new na) (.exc0 (by rw [hid_no (z.not na), upd_same]) r1)
theorem se_mkx1 {x f : Str} {k : Nat} {e : Expr} {g : Vw → Rv D} {p pos : Pos} (R : RaisI S.toWd k x f) (he : SemE S e g) (hk : Nat.ble (k + 1) S.k = true := by rfl) (hg : S.sc.names.lookup x = some .globalImplicit := by rfl) (hdb : (x == ("__debug__" : Str)) = false := by decide)
    (hs : ∀ env, starEach [e] env = (false, eval e env) :: starEach [] env := by intro _; rfl) (hpl : ∀ env, (backTo pos (starEach [] env)).any (·.1) = false := by intro _; rfl) :
    SemE S (.Call (.Name x p) [e] [] pos) (mkx x f g) := by
  obtain ⟨C, fI, fd, ps, r1, r2, r3, r4, r5, r6, r7⟩ := R.ex
  obtain ⟨t, pe, qe⟩ := he.ex
  refine ⟨⟨fun σ H Q => tMkO C (spI S.K f) [] (tCons t tNil) σ H fun cls d H' => ∃ C, cls = .ref C ∧ ∀ a, H' a = none → Q (.ref a) (upd H' a (rawE a C d)), fun X hX => ?_, fun η σ H Z Q z hη h => ?_⟩⟩
  · exact pe_mkx (pmk_oex (CX := CX0) (by rw [hX.hK]; exact r2) (by rw [hX.hK]; exact r3) (by rw [hX.hK]; exact r4) (by rw [hX.hP, hX.hw, hX.hK, hX.hmg, hX.hb]; exact r6) (hX.hr.mono (Nat.le_of_ble_eq_true hk)) (by rw [hX.hK]; exact r7) .nil pass0
      (by show X.env.scope.names.lookup x = _; rw [hX.hsc]; exact hg) (by rw [hX.hmg]; exact r1) (pa_cons (pe X hX) pa_nil (hs _)) hdb (hs _) (hpl _))
  · refine qe η σ H Z _ z hη (Post.bind h fun d v H1 _ e1 r h1 => ?_)
    refine ⟨by simp, fun a na => ⟨a, C, v, rfl, r2, r5, upd_same, fun dx nd hne => ⟨rfl, dx, [(f, v)], upd_same, by rw [upd_ne hne, upd_same], by rw [upd_ne hne] at nd; exact nd, ?_⟩⟩⟩
    rw [upd_ne hne] at nd
    have eH : upd (L2.del (upd (upd (upd H1 a (exo a C none)) dx (exd dx [(f, v)])) a (exo a C (some dx))) a) dx (.xd [(f, v)]) = upd H1 dx (.xd [(f, v)]) := by
      funext b
      by_cases hb : b = dx
      · subst hb; rw [upd_same, upd_same]
      · rw [upd_ne hb, upd_ne hb]
        by_cases hba : b = a
        · subst hba; rw [del_same, na]
        · rw [del_ne hba, upd_ne hba, upd_ne hb, upd_ne hba]
    rw [eH]
    refine ⟨C, rfl, fun a2 n2 => ?_⟩
    have g1 : Gr H1 (upd H1 dx (.xd [(f, v)])) := Gr.new nd
    have g2 : Gr H1 (upd (upd H1 dx (.xd [(f, v)])) a2 (rawE a2 C (some dx))) := g1.trans (Gr.new n2)
    have z1 := z.gr e1
    have hne2 : dx ≠ a2 := fun q => by rw [← q, upd_same] at n2; cases n2
    have n2' : H1 a2 = none := (upd_ne (Ne.symm hne2)).symm.trans n2
    refine h1 _ _ g2 (.exc1 (dd := dx) (v := v) (by rw [hid_no (z1.not n2'), upd_same]) r1 (by rw [hid_no (z1.not nd), upd_ne hne2, upd_same]) (r.gr (g2.hid Z)))
end
/-! ### text * n -/
def dMulS : D → D → Rv D
  | .str x, .int n => if 0 ≤ n ∧ n ≤ 100000 ∧ x.length * n.toNat ≤ 16000000 then .ok (.str (Txt.mul x n)) else .un
  | _, _ => .un
@[simp] theorem dMulS_s (x : Str) (n : Int) : dMulS (.str x) (.int n) = if 0 ≤ n ∧ n ≤ 100000 ∧ x.length * n.toNat ≤ 16000000 then .ok (.str (Txt.mul x n)) else .un := rfl
def rMulS : V → V → Hp → VK → Prop := fun x y H Q => ∃ s n, x = .str s ∧ y = .int n ∧ MulOk s n ∧ Q (.str (Txt.mul s n)) H
section
variable {X : Cx} {S : Sx} {a b : Expr} {fa fb : Vw → Rv D} {pos : Pos}
theorem op_mulS : OpR X (binaryOp .Mult) rMulS := by
  intro pins s σ H x y v u Q I rx ry h
  obtain ⟨i, j, rfl, rfl, hz, q⟩ := h
  obtain ⟨t, rfl⟩ := rx
  obtain ⟨t', rfl⟩ := ry
  exact SB.mul hz fun t' k => ⟨.str (Txt.mul i j), H, I.tok k, ⟨_, rfl⟩, q⟩
theorem o2_mulS : Op2 S rMulS dMulS := by
  intro x y a b H Z Q σ z ra rb h
  cases ra with
  | str i =>
    cases rb with
    | int n =>
      rw [dMulS_s] at h
      split at h
      · rename_i hl
        refine ⟨i, n, rfl, rfl, ⟨by simp; omega, fun h1 _ => ?_, fun h1 _ => ?_⟩, Post.ok (R := RE S) h (.str _)⟩
        · have : (i.length : Int) ≤ (2 ^ 63 - 1) / n := by
            rw [Int.le_ediv_iff_mul_le (by omega)]
            have e : ((i.length * n.toNat : Nat) : Int) = (i.length : Int) * n := by rw [Int.natCast_mul, Int.toNat_of_nonneg hl.1]
            omega
          omega
        · have := line_of hl.2.2
          show decide (i.length * n.toNat > sizeLine) = false
          simp
          omega
      · exact False.elim h
    | _ => exact False.elim h
  | _ => exact False.elim h
theorem se_mulS (ha : SemE S a fa) (hb : SemE S b fb) : SemE S (.BinOp a .Mult b pos) (bi2 dMulS fa fb) := se_op (fun _ _ => op_mulS) o2_mulS ha hb
end
end Bv

namespace Bv
open PySem PySem.Spec L2 PyProof.Rows
/-- one's own tree is changed, its places too -/
theorem OkAt.change2 {c : Cz} {F H0 H H' : Hp} {Z : Addr → Prop} {ρ : Env'} {o : Nat → List Addr} {σ : L2.St} (k : OkAt c F H0 Z ρ o σ H) {i n m0 : Nat} {d e' : D} {v : V} {W : List Addr} (hi : ρ[i]? = some (.ow m0 e')) (hv : σ[i]? = some (some v))
    (hW : ∀ a ∈ W, a ∈ o i ∨ H a = none) (hH : ∀ a, a ∉ o i → a ∉ W → H' a = H a) (r : ∀ Hv, Gr (hid H (hz Z ρ o [])) Hv → Tree c Hv H' n v d W) :
    OkAt c F H0 Z (ρ.set i (.ow n d)) (fun l => if l = i then W else o l) σ H' := by
  have hl : i < ρ.length := (List.getElem?_eq_some_iff.mp hi).1
  obtain ⟨_, i3⟩ := k.ow i m0 e' hi
  have cases_ : ∀ {j m x}, (ρ.set i (.ow n d))[j]? = some (Sl.ow m x) → (j = i ∧ m = n ∧ x = d) ∨ (j ≠ i ∧ ρ[j]? = some (.ow m x)) := fun {j m x} h => by
    by_cases q : i = j
    · subst q
      rw [List.getElem?_set_self hl] at h
      cases h
      exact .inl ⟨rfl, rfl, rfl⟩
    · rw [List.getElem?_set_ne q] at h
      exact .inr ⟨Ne.symm q, h⟩
  have old : ∀ {j m x a}, j ≠ i → ρ[j]? = some (Sl.ow m x) → a ∈ o j → a ∉ o i ∧ a ∉ W := fun {j m x a} hne h ha => by
    obtain ⟨⟨w, _, t⟩, _⟩ := k.ow j m x h
    have n1 := k.inj j i m m0 x e' h hi hne a ha
    exact ⟨n1, fun z => (hW a z).elim n1 (t.some ha)⟩
  have e : Gr (hid H (hz Z ρ o [])) (hid H' (hz Z (ρ.set i (.ow n d)) (fun l => if l = i then W else o l) [])) := fun a w h => by
    obtain ⟨h1, h2⟩ := hid_some h
    have na : a ∉ o i := fun z => h1 (.inr ⟨i, m0, e', hi, by simp, z⟩)
    have nw : a ∉ W := fun z => (hW a z).elim na fun q => by rw [q] at h2; cases h2
    rw [hid_no ?_, hH a na nw]
    · exact h2
    rintro (z | ⟨j, m, x, j1, _, j3⟩)
    · exact h1 (.inl z)
    · rcases cases_ j1 with ⟨rfl, _⟩ | ⟨hne, j1⟩
      · simp only [if_true] at j3; exact nw j3
      · simp only [if_neg hne] at j3; exact h1 (.inr ⟨j, m, x, j1, by simp, j3⟩)
  refine ⟨by simp [k.len], fun j x h => ?_, fun j m x h => ?_, fun j1 j2 m1 m2 x y h1 h2 q => ?_, fun a w h => ?_, k.fr.trans e, k.zin⟩
  · by_cases q : i = j
    · subst q
      rw [List.getElem?_set_self hl] at h
      cases h
    · rw [List.getElem?_set_ne q] at h
      obtain ⟨w, h1, h2⟩ := k.fz j x h
      exact ⟨w, h1, h2.gr e⟩
  · rcases cases_ h with ⟨rfl, rfl, rfl⟩ | ⟨hne, h⟩
    · simp only [if_true]
      refine ⟨⟨v, hv, r _ e⟩, fun a ha => ?_⟩
      rcases hW a ha with z | z
      · exact i3 a z
      · exact ⟨k.gr.free z, fun y => k.zin.gr k.gr a y z⟩
    · simp only [if_neg hne]
      obtain ⟨⟨w, h2, t⟩, h3⟩ := k.ow j m x h
      exact ⟨⟨w, h2, t.gr e fun a ha => hH a (old hne h ha).1 (old hne h ha).2⟩, h3⟩
  · intro a
    rcases cases_ h1 with ⟨e1, _⟩ | ⟨n1, g1⟩
    · rcases cases_ h2 with ⟨e2, _⟩ | ⟨n2, g2⟩
      · exact absurd (e1.trans e2.symm) q
      · simp only [if_pos e1, if_neg n2]
        exact fun h3 h4 => (old n2 g2 h4).2 h3
    · rcases cases_ h2 with ⟨e2, _⟩ | ⟨n2, g2⟩
      · simp only [if_neg n1, if_pos e2]
        exact fun h3 h4 => (old n1 g1 h3).2 h4
      · simp only [if_neg n1, if_neg n2]
        exact k.inj j1 j2 m1 m2 x y g1 g2 q a
  · have hne : H a ≠ none := fun z => by rw [k.gr _ _ h] at z; cases z
    rw [hH a (fun z => by rw [(i3 a z).1] at h; cases h) fun z => (hW a z).elim (fun z => by rw [(i3 a z).1] at h; cases h) hne]
    exact k.gr _ _ h
theorem TreeA.append {c : Cz} {Hv H : Hp} {n : Nat} {vs : List V} {us : List V} {es : List D} {W : List Addr} (h2 : TreeA c Hv H n us es W) : ∀ {ds : List D} {U : List Addr}, TreeA c Hv H n vs ds U → (∀ a ∈ U, a ∉ W) → TreeA c Hv H n (vs ++ us) (ds ++ es) (U ++ W) := by
  induction vs with
  | nil => intro ds U h hd; cases h; exact h2
  | cons v vs ih =>
    intro ds U h hd
    cases h with
    | @cons _ _ _ _ _ U1 U2 a1 a2 a3 =>
      rw [List.append_assoc]
      exact .cons a1 (ih a2 fun a ha => hd a (List.mem_append_right _ ha)) fun a ha z => (List.mem_append.mp z).elim (a3 a ha) (hd a (List.mem_append_left _ ha))
theorem TreeA.reverse {c : Cz} {Hv H : Hp} {n : Nat} {vs : List V} : ∀ {ds : List D} {U : List Addr}, TreeA c Hv H n vs ds U → ∃ W, (∀ a, a ∈ W ↔ a ∈ U) ∧ TreeA c Hv H n vs.reverse ds.reverse W := by
  induction vs with
  | nil => intro ds U h; cases h; exact ⟨[], fun a => Iff.rfl, .nil⟩
  | cons v vs ih =>
    intro ds U h
    cases h with
    | @cons _ _ _ d ds U1 U2 a1 a2 a3 =>
      obtain ⟨W, w1, w2⟩ := ih a2
      refine ⟨W ++ (U1 ++ []), fun a => ?_, ?_⟩
      · simp only [List.append_nil, List.mem_append, w1]
        exact Or.comm
      · rw [List.reverse_cons, List.reverse_cons]
        exact TreeA.append (.cons a1 .nil (fun a _ z => by cases z)) w2 fun a ha z => by
          rw [List.append_nil] at z
          exact a3 a z ((w1 a).mp ha)
section
variable {S : Sx}
/-! ### x.reverse(), x.clear() -/
def revA (j : Nat) (ρ : Env') : Res := match ρ[j]? with
  | some (.ow (n + 1) (.list xs)) => .nx (ρ.set j (.ow (n + 1) (.list xs.reverse)))
  | _ => .un
def clrA (j : Nat) (ρ : Env') : Res := match ρ[j]? with
  | some (.ow (n + 1) (.list _)) => .nx (ρ.set j (.ow (n + 1) (.list [])))
  | _ => .un
theorem ss_rev {j : Nat} {y : Str} {p1 p2 p3 pos : Pos} (hN : S.N[j]? = some y := by rfl) (hv : Vis S.sc y := by first | exact Or.inl rfl | exact Or.inr (Or.inl rfl) | exact Or.inr (Or.inr rfl)) (hd : (y == ("__debug__" : Str)) = false := by decide)
    (hcd : (y == ("__classdict__" : Str)) = false := by decide) (hbase : ∀ env, attributeBase (.Name y p1) "reverse" env (eval (.Name y p1) env) = eval (.Name y p1) env := by intro _; rfl) (hline : (p2.endLine == p3.line) = true := by rfl)
    (hs : ∀ env, swapsWith (.Call (.Attribute (.Name y p1) "reverse" p2) [] [] p3) none pos.line env = pure false := by intro _; rfl) : SemS S (.Expr (.Call (.Attribute (.Name y p1) "reverse" p2) [] [] p3) pos) (revA j) := by
  refine ⟨⟨tDrop (tBM0 S.K "list" rReverse (tVar j)), fun X hX => ?_, fun ρ F H0 Z σ H Dn ⟨o, k⟩ h => ?_⟩⟩
  · rw [← hX.hK]
    exact ps_expr (pe_bm0 PySem.F.plainAttrs_list PySem.F.slot_list_reverse PySem.F.type_list_reverse mt_reverse (pe_var (by rw [hX.hN]; exact hN) (by rw [hX.hsc]; exact hv) hd hcd) (hbase _) hline) (hs _)
  unfold revA at h
  split at h
  · rename_i n xs hj
    obtain ⟨⟨v0, s1, tr⟩, s2⟩ := k.ow j _ _ hj
    obtain ⟨a, vs, W, rfl, hU, w4, w5, w6⟩ := tr.isL
    obtain ⟨W', x1, x2⟩ := TreeA.reverse w5
    refine ⟨_, s1, .inl ⟨rfl, vs, .inl (.inl w4)⟩, a, vs, rfl, rfl, w4, ?_⟩
    have aIn : a ∈ o j := by rw [hU]; exact List.mem_cons_self
    refine h _ _ ⟨_, k.change2 (W := a :: W') hj s1 (fun b hb => ?_) (fun b hb _ => upd_ne fun z => hb (z ▸ aIn)) fun Hv e => ?_⟩
    · rcases List.mem_cons.mp hb with rfl | hb
      · exact .inl aIn
      · exact .inl (by rw [hU]; exact List.mem_cons_of_mem _ ((x1 b).mp hb))
    · exact .lst upd_same (TreeA.gr e (fun b hb => upd_ne fun z => w6 (z ▸ (x1 b).mp hb)) x2) fun z => w6 ((x1 a).mp z)
  · exact False.elim h
theorem ss_clr {j : Nat} {y : Str} {p1 p2 p3 pos : Pos} (hN : S.N[j]? = some y := by rfl) (hv : Vis S.sc y := by first | exact Or.inl rfl | exact Or.inr (Or.inl rfl) | exact Or.inr (Or.inr rfl)) (hd : (y == ("__debug__" : Str)) = false := by decide)
    (hcd : (y == ("__classdict__" : Str)) = false := by decide) (hbase : ∀ env, attributeBase (.Name y p1) "clear" env (eval (.Name y p1) env) = eval (.Name y p1) env := by intro _; rfl) (hline : (p2.endLine == p3.line) = true := by rfl)
    (hs : ∀ env, swapsWith (.Call (.Attribute (.Name y p1) "clear" p2) [] [] p3) none pos.line env = pure false := by intro _; rfl) : SemS S (.Expr (.Call (.Attribute (.Name y p1) "clear" p2) [] [] p3) pos) (clrA j) := by
  refine ⟨⟨tDrop (tBM0 S.K "list" rClear (tVar j)), fun X hX => ?_, fun ρ F H0 Z σ H Dn ⟨o, k⟩ h => ?_⟩⟩
  · rw [← hX.hK]
    exact ps_expr (pe_bm0 PySem.F.plainAttrs_list PySem.F.slot_list_clear PySem.F.type_list_clear mt_clear (pe_var (by rw [hX.hN]; exact hN) (by rw [hX.hsc]; exact hv) hd hcd) (hbase _) hline) (hs _)
  unfold clrA at h
  split at h
  · rename_i n xs hj
    obtain ⟨⟨v0, s1, tr⟩, s2⟩ := k.ow j _ _ hj
    obtain ⟨a, vs, W, rfl, hU, w4, w5, w6⟩ := tr.isL
    refine ⟨_, s1, .inl ⟨rfl, vs, .inl (.inl w4)⟩, a, vs, rfl, rfl, w4, ?_⟩
    have aIn : a ∈ o j := by rw [hU]; exact List.mem_cons_self
    refine h _ _ ⟨_, k.change2 (W := [a]) hj s1 (fun b hb => by rw [List.mem_singleton.mp hb]; exact .inl aIn) (fun b hb _ => upd_ne fun z => hb (z ▸ aIn)) fun Hv e => ?_⟩
    exact .lst (U := []) upd_same .nil (by simp)
  · exact False.elim h
/-! ### x[i] = e -/
def putL (j : Nat) (M : List Nat) (fi fv : Vw → Rv D) (ρ : Env') : Res := match ρ[j]? with
  | some (.ow (n + 1) (.list xs)) => (fv (vw M ρ)).st fun y => (fi (vw M ρ)).st fun i => match i with
    | .int i => (match ixN xs.length i with | some q => if imm y = true then .nx (ρ.set j (.ow (n + 1) (.list (xs.set q y)))) else .un | none => .un)
    | _ => .un
  | _ => .un
theorem TreeA.setI {c : Cz} {Hv H : Hp} {n : Nat} {v : V} {d : D} (hd : Tree c Hv H n v d []) {vs : List V} : ∀ {ds : List D} {U : List Addr} (q : Nat), TreeA c Hv H n vs ds U → ∃ W, (∀ a ∈ W, a ∈ U) ∧ TreeA c Hv H n (vs.set q v) (ds.set q d) W := by
  induction vs with
  | nil => intro ds U q h; cases h; exact ⟨[], fun a z => z, .nil⟩
  | cons w vs ih =>
    intro ds U q h
    cases h with
    | @cons _ _ _ _ _ U1 U2 a1 a2 a3 =>
      cases q with
      | zero => exact ⟨[] ++ U2, fun a z => List.mem_append_right _ z, .cons hd a2 fun a z => by cases z⟩
      | succ q =>
        obtain ⟨W, w1, w2⟩ := ih q a2
        exact ⟨U1 ++ W, fun a z => (List.mem_append.mp z).elim (List.mem_append_left _) fun z => List.mem_append_right _ (w1 a z), .cons a1 w2 fun a ha z => a3 a ha (w1 a z)⟩
theorem ss_putL {j : Nat} {x : Str} {ie ve : Expr} {fi fv : Vw → Rv D} {p1 p2 pos : Pos} (M : List Nat) (hi : SemE S ie fi) (hv : SemE S ve fv) (hN : S.N[j]? = some x := by rfl) (hvis : Vis S.sc x := by first | exact Or.inl rfl | exact Or.inr (Or.inl rfl) | exact Or.inr (Or.inr rfl)) (hd : (x == ("__debug__" : Str)) = false := by decide)
    (hcd : (x == ("__classdict__" : Str)) = false := by decide) (hs : ∀ env, swapsWithSole [.Subscript (.Name x p1) ie p2] ve pos.line env = pure false := by intro _; rfl) (hw : ∀ env, swappedStores [.Subscript (.Name x p1) ie p2] ve env = pure none := by intro _; rfl)
    (h1 : ∀ env, (assignEach [.Subscript (.Name x p1) ie p2] env).map (·.2) = [assign (.Subscript (.Name x p1) ie p2) env] := by intro _; rfl)
    (ha : ∀ env v, assign (.Subscript (.Name x p1) ie p2) env v = (do
      let ov ← holding [v] (eval (.Name x p1) env)
      let iv ← holding [v, ov] (eval ie env)
      standAt p2
      holding [v, ov, iv] (setItem ov iv v)
      release [v, ov, iv] []) := by intro _ _; rfl) : SemS S (.Assign [.Subscript (.Name x p1) ie p2] ve pos) (putL j M fi fv) := by
  obtain ⟨ti, pi, qi⟩ := hi.ex
  obtain ⟨tv, pv, qv⟩ := hv.ex
  refine ⟨⟨tAsg tv (gSub (tVar j) ti rSetL), fun X hX => ?_, fun ρ F H0 Z σ H Dn ⟨o, k⟩ h => ?_⟩⟩
  · exact ps_asg (pv X hX) (pg_sub (pe_var (by rw [hX.hN]; exact hN) (by rw [hX.hsc]; exact hvis) hd hcd) (pi X hX) set_list (ha _)) (hs _) (hw _) (h1 _)
  unfold putL at h
  split at h
  · rename_i n xs hj
    refine qv (vw M ρ) σ H (hz Z ρ o M) _ k.hin k.view (run_e k h fun y yv H1 _ k1 r1 h1 => ?_)
    obtain ⟨⟨v0, s1, tr⟩, s2⟩ := k1.ow j _ _ hj
    refine ⟨v0, s1, ?_⟩
    refine qi (vw M ρ) σ H1 (hz Z ρ o M) _ k1.hin k1.view (run_eg (R := RE S) k1 h1 fun iD iv H2 _ g2 k2 r2 h2 => ?_)
    obtain ⟨⟨v0', s1', tr'⟩, s2'⟩ := k2.ow j _ _ hj
    rw [s1] at s1'
    cases s1'
    obtain ⟨a, vs, W, rfl, hU, w4, w5, w6⟩ := tr'.isL
    have hl := TreeA.length w5
    cases r2 with
    | int i =>
      have h2 : PostS S F H0 Z Dn (match ixN xs.length i with | some q => if imm y = true then .nx (ρ.set j (.ow (n + 1) (.list (xs.set q y)))) else .un | none => .un) := h2
      cases ei : ixN xs.length i with
      | none => rw [ei] at h2; exact False.elim h2
      | some q =>
        simp only [ei] at h2
        split at h2
        · rename_i him
          refine ⟨a, vs, i, q, rfl, rfl, w4, by rw [hl]; exact ei, ?_⟩
          have aIn : a ∈ o j := by rw [hU]; exact List.mem_cons_self
          have ry : Rp S.c (hid H2 (hz Z ρ o [])) yv y := k2.imm him (r1.gr (g2.hid _))
          obtain ⟨W', x1, x2⟩ := TreeA.setI (.leaf him ry) q w5
          refine h2 _ _ ⟨_, k2.change2 (W := a :: W') hj s1 (fun b hb => ?_) (fun b hb _ => upd_ne fun z => hb (z ▸ aIn)) fun Hv e => ?_⟩
          · rcases List.mem_cons.mp hb with rfl | hb
            · exact .inl aIn
            · exact .inl (by rw [hU]; exact List.mem_cons_of_mem _ (x1 b hb))
          · exact .lst upd_same (TreeA.gr e (fun b hb => upd_ne fun z => w6 (z ▸ x1 b hb)) x2) fun z => w6 (x1 a z)
        · exact False.elim h2
    | _ => exact False.elim h2
  · exact False.elim h
/-! ### xs[::-1] -/
def rvsF (f : Vw → Rv D) (η : Vw) : Rv (List D) := (f η).bind fun d => match d with | .list xs => .ok xs.reverse | _ => .un
theorem RpA.app2 {c : Cz} {H : Hp} {us : List V} {es : List D} (h2 : RpA c H us es) {vs : List V} : ∀ {ds : List D}, RpA c H vs ds → RpA c H (vs ++ us) (ds ++ es) := by
  induction vs with
  | nil => intro ds h; cases h; exact h2
  | cons v vs ih => intro ds h; cases h with | cons a b => exact .cons a (ih b)
theorem RpA.rvs {c : Cz} {H : Hp} {vs : List V} : ∀ {ds : List D}, RpA c H vs ds → RpA c H vs.reverse ds.reverse := by
  induction vs with
  | nil => intro ds h; cases h; exact .nil
  | cons v vs ih =>
    intro ds h
    cases h with
    | cons a b =>
      rw [List.reverse_cons, List.reverse_cons]
      exact RpA.app2 (.cons a .nil) (ih b)
theorem sf_rvs {e : Expr} {f : Vw → Rv D} {k : Nat} {p1 p2 p3 pos : Pos} (he : SemE S e f) : SemF S (.Subscript e (.Slice none none (some (.UnaryOp .USub (.Constant (.int 1) k p1) p2)) p3) pos) (rvsF f) := by
  obtain ⟨t, p, q⟩ := he.ex
  refine ⟨⟨tRevL S.K t, fun X hX => ?_, fun η σ H Z Q z hη h => ?_⟩⟩
  · rw [← hX.hK]
    exact pe_revL (p X hX)
  · refine q η σ H Z _ z hη (Post.bind h fun d x H1 _ e1 r1 h1 => ?_)
    cases r1 with
    | @lst a vs ds g1 g2 =>
      have h1 : Post S (fun H' (p : Addr × List V) ds => RpA S.c H' p.2 ds) σ Z H1 (fun p H' => H' p.1 = none → Q (.ref p.1) (upd H' p.1 (.lst p.2))) (.ok ds.reverse) := h1
      exact ⟨a, vs, rfl, ((Gr.hid_le H1 Z).rdl g1).sq, fun p hp => h1 (p, vs.reverse) H1 (Gr.refl H1) (RpA.rvs g2) hp⟩
    | _ => exact False.elim h1
/-! ### x.count(y), texts -/
def cntM (fa fb : Vw → Rv D) (η : Vw) : Rv D := (fa η).bind fun a => if isStr a = true then (fb η).bind fun b => match a, b with
  | .str x, .str y => .ok (.int (Txt.count x y))
  | _, _ => .un else .un
theorem se_count {a b : Expr} {fa fb : Vw → Rv D} {p1 p2 : Pos} (ha : SemE S a fa) (hb : SemE S b fb) (hs : ∀ env, starEach [b] env = (false, eval b env) :: starEach [] env := by intro _; rfl) (hpl : ∀ env, (backTo p2 (starEach [] env)).any (·.1) = false := by intro _; rfl) (hbase : ∀ env, attributeBase a "count" env (eval a env) = eval a env := by intro _; rfl)
    (hfew : ∀ env, ((backTo p2 (starEach [b] env)).all (fun x => !x.1) && (backToKw p2 (keywordEach [] env)).all (fun x => x.1.isSome)
      && decide (([b] : List Expr).length + ([] : List Keyword).length + (if ([] : List Keyword).isEmpty then 0 else 1) < 30)) = true := by intro _; rfl) (hline : (p1.endLine == p2.line) = true := by rfl) :
    SemE S (.Call (.Attribute a "count" p1) [b] [] p2) (cntM fa fb) := by
  obtain ⟨ta, pa, qa⟩ := ha.ex
  obtain ⟨tb, pb, qb⟩ := hb.ex
  refine ⟨⟨tBM S.K "str" (fun x xs H Q => ∃ a b, x = .str a ∧ xs = [.str b] ∧ Q (.int (Txt.count a b)) H) ta (tCons tb tNil), fun X hX => ?_, fun η σ H Z Q z hη h => ?_⟩⟩
  · rw [← hX.hK]
    exact pe_bm PySem.F.plainAttrs_str PySem.F.slot_str_count PySem.F.type_str_count mt_count (pa X hX) (pa_cons (pb X hX) pa_nil (hs _)) (hbase _) (hfew _) hline (hs _) (hpl _)
  · refine qa η σ H Z _ z hη (Post.bind h fun d x H1 _ e1 r1 h1 => ?_)
    by_cases hd : isStr d = true
    · rw [if_pos hd] at h1
      obtain ⟨sp, rfl⟩ := isStr_eq hd
      cases r1
      refine ⟨?_, ?_⟩
      · exact rfl
      refine qb η σ H1 Z _ (z.gr e1) (hη.gr (e1.hid Z)) (Post.bind h1 fun e y H2 _ e2 r2 h2 => ?_)
      cases r2 with
      | str y => exact ⟨sp, y, rfl, rfl, Post.ok (R := RE S) h2 (.int _)⟩
      | _ => exact False.elim h2
    · rw [if_neg hd] at h1
      exact False.elim h1
end
end Bv

namespace Bv
open PySem PySem.Spec L2 PyProof.Rows
/-! ### a name for a part of a tree of one's own: x = y[i]; a statement that changes y by x -/
def PostPb (S : Sx) (σ : L2.St) (Z Zv : Addr → Prop) (n : Nat) (v : V) (U : List Addr) (H : Hp) (Q : VK) : Rv Foc → Prop
  | .un => False
  | .ok (m, d', put) => ∀ v' U' H', Gr H H' → Zip S.c (hid H' Z) H' n v U m v' d' put U' → Q v' H'
  | .xc x => ∀ cls dx H', Gr H H' → XcR S.c S.mg (hid H' Zv) x cls dx → S.W cls dx σ H'
structure SemPb (S : Sx) (j : Nat) (e : Expr) (f : Vw → Nat → D → Rv Foc) : Prop where
  ex : ∃ t, (∀ X, S.At X → PE X e t) ∧ ∀ η σ H Z Zv n d v U Q, (∀ a, Zv a → Z a) → In Z H → Vok S.c (hid H Zv) η σ → σ[j]? = some (some v) → Tree S.c (hid H Z) H n v d U → PostPb S σ Z Zv n v U H Q (f η n d) → t σ H Q
section
variable {S : Sx}
theorem spb_var {x : Str} {pos : Pos} (j : Nat) (hN : S.N[j]? = some x := by rfl) (hv : Vis S.sc x := by first | exact Or.inl rfl | exact Or.inr (Or.inl rfl) | exact Or.inr (Or.inr rfl)) (hd : (x == ("__debug__" : Str)) = false := by decide)
    (hcd : (x == ("__classdict__" : Str)) = false := by decide) : SemPb S j (.Name x pos) pav :=
  ⟨⟨_, fun X hX => pe_var (by rw [hX.hN]; exact hN) (by rw [hX.hsc]; exact hv) hd hcd, fun η σ H Z Zv n d v U Q sub z hη e1 t h => ⟨v, e1, h v U H (Gr.refl H) ⟨t, fun a ha => ha, fun Hv2 H2 d2 e2 k t2 => t2⟩⟩⟩⟩
theorem spb_ix {j : Nat} {a b : Expr} {f : Vw → Nat → D → Rv Foc} {fb : Vw → Rv D} {pos : Pos} (ha : SemPb S j a f) (hb : SemE S b fb) (hs : PlainIx b := by intro _ _; rfl) : SemPb S j (.Subscript a b pos) (pai f fb) := by
  obtain ⟨ta, pa, qa⟩ := ha.ex
  obtain ⟨tb, pb, qb⟩ := hb.ex
  refine ⟨⟨_, fun X hX => pe_ix (hX.hK ▸ ix_seq) (pa X hX) (pb X hX) hs, fun η σ H Z Zv n d v U Q sub z hη e1 t h => ?_⟩⟩
  refine qa η σ H Z Zv n d v U _ sub z hη e1 t ?_
  unfold pai at h
  cases ef : f η n d with
  | un => rw [ef] at h; exact h
  | xc x => rw [ef] at h; exact h
  | ok p =>
    obtain ⟨m, d', put⟩ := p
    rw [ef] at h
    intro v' U' H1 g1 zp
    refine qb η σ H1 Zv _ (fun a q => z.gr g1 a (sub a q)) (hη.gr (g1.hid Zv)) ?_
    simp only [Rv.bind_ok] at h
    cases eb : fb η with
    | un => rw [eb] at h; exact h
    | xc x => rw [eb] at h; exact fun cls dx H' e q => h cls dx H' (g1.trans e) q
    | ok i =>
      rw [eb] at h
      intro iv H2 g2 ri
      have same : ∀ a ∈ U, H2 a = H1 a := fun a hm => by
        rw [t.same (g1.trans g2) hm, t.same g1 hm]
      have zp := zp.gr (g2.hid Z) same
      simp only [Rv.bind_ok] at h
      cases ri with
      | int i =>
        cases zp.tree with
        | leaf0 r => exact False.elim h
        | leaf im r =>
          have h : PostPb S σ Z Zv n v U H Q (foc1 i (m, d', put)) := h
          cases m with
          | zero => exact False.elim h
          | succ m =>
            cases d' with
            | list xs => exact absurd im (by unfold imm; exact Bool.false_ne_true)
            | tuple xs =>
              have h : PostPb S σ Z Zv n v U H Q (if immA xs = true then .un else match ixN xs.length i with | some k => (match xs[k]? with | some x => .ok (m + 1, x, fun y => put (.tuple (xs.set k y))) | none => .un) | none => .un) := h
              unfold imm at im
              rw [if_pos im] at h
              exact False.elim h
            | _ => exact False.elim h
        | @lst m a xs ds W h1 h2 h3 =>
          have h : PostPb S σ Z Zv n v U H Q (match ixN ds.length i with | some k => (match ds[k]? with | some x => .ok (m, x, fun y => put (.list (ds.set k y))) | none => .un) | none => .un) := h
          cases ei : ixN ds.length i with
          | none => rw [ei] at h; exact False.elim h
          | some k =>
            simp only [ei] at h
            cases ex : ds[k]? with
            | none => rw [ex] at h; exact False.elim h
            | some x =>
              simp only [ex] at h
              obtain ⟨w, W', q1, q2, q3, q4⟩ := TreeA.member h2 ex
              refine .inl ⟨_, _, i, w, rfl, rfl, .inl (.inl h1), by unfold L2.atI; rw [TreeA.length h2, ei]; exact q1, h w W' H2 (g1.trans g2) ⟨q2, fun a ha => zp.sub a (List.mem_cons_of_mem _ (q3 a ha)), fun Hv2 H3 d2 e2 kk t2 => ?_⟩⟩
              have kW : ∀ b ∈ a :: W, b ∉ W' → H3 b = H2 b := fun b hb hn => kk b (zp.sub b hb) hn
              refine zp.back Hv2 H3 _ e2 (fun b hb hn => kk b hb fun q => hn (List.mem_cons_of_mem _ (q3 b q))) ?_
              exact .lst (by rw [kW a List.mem_cons_self fun q => h3 (q3 a q)]; exact h1) (q4 Hv2 H3 d2 e2 (fun b hb hn => kW b (List.mem_cons_of_mem _ hb) hn) t2) h3
        | @tup m a xs ds W h1 h2 =>
          have h : PostPb S σ Z Zv n v U H Q (if immA ds = true then .un else match ixN ds.length i with | some k => (match ds[k]? with | some x => .ok (m + 1, x, fun y => put (.tuple (ds.set k y))) | none => .un) | none => .un) := h
          split at h
          · exact False.elim h
          cases ei : ixN ds.length i with
          | none => rw [ei] at h; exact False.elim h
          | some k =>
            simp only [ei] at h
            cases ex : ds[k]? with
            | none => rw [ex] at h; exact False.elim h
            | some x =>
              simp only [ex] at h
              obtain ⟨w, W', q1, q2, q3, q4⟩ := TreeA.member h2 ex
              refine .inr (.inl ⟨_, _, i, w, rfl, rfl, (Gr.hid_le _ _).sqT h1, by unfold L2.atI; rw [TreeA.length h2, ei]; exact q1, h w W' H2 (g1.trans g2) ⟨q2, fun a ha => zp.sub a (q3 a ha), fun Hv2 H3 d2 e2 kk t2 => ?_⟩⟩)
              refine zp.back Hv2 H3 _ e2 (fun b hb hn => kk b hb fun q => hn (q3 b q)) ?_
              exact .tup (e2.sqT h1) (q4 Hv2 H3 d2 e2 (fun b hb hn => kk b (zp.sub b hb) hn) t2)
        | dctK _ _ _ => exact False.elim h
        | dctN _ _ _ _ => exact False.elim h
      | _ => exact False.elim h
/-- a slot's content is forgotten -/
theorem OkAt.drop {c : Cz} {F H0 H : Hp} {Z : Addr → Prop} {ρ : Env'} {o : Nat → List Addr} {σ : L2.St} (k : OkAt c F H0 Z ρ o σ H) (i : Nat) (u : Option V) : OkAt c F H0 Z (ρ.set i .un) o (σ.set i u) H := by
  have set_ : ∀ {j : Nat} {s : Sl}, (ρ.set i .un)[j]? = some s → s ≠ .un → ρ[j]? = some s ∧ i ≠ j := fun {j s} h hs => by
    by_cases q : i = j
    · subst q
      rw [List.getElem?_set] at h
      split at h
      · split at h
        · exact absurd (Option.some.inj h).symm hs
        · cases h
      · contradiction
    · rw [List.getElem?_set_ne q] at h; exact ⟨h, q⟩
  have sub : ∀ a, hz Z (ρ.set i .un) o [] a → hz Z ρ o [] a := fun a h => h.imp id fun ⟨j, n, e, h1, h2, h3⟩ => ⟨j, n, e, (set_ h1 (by simp)).1, h2, h3⟩
  have e : Gr (hid H (hz Z ρ o [])) (hid H (hz Z (ρ.set i .un) o [])) := (Gr.refl H).hid2 sub
  refine ⟨by simp [k.len], fun j x h => ?_, fun j n x h => ?_, fun j1 j2 _ _ _ _ h1 h2 q => k.inj j1 j2 _ _ _ _ (set_ h1 (by simp)).1 (set_ h2 (by simp)).1 q, k.gr, k.fr.trans e, k.zin⟩
  · obtain ⟨h, q⟩ := set_ h (by simp)
    obtain ⟨w, h1, h2⟩ := k.fz j x h
    exact ⟨w, by rw [List.getElem?_set_ne q]; exact h1, h2.gr e⟩
  · obtain ⟨h, q⟩ := set_ h (by simp)
    obtain ⟨⟨w, h2, t⟩, h3⟩ := k.ow j n x h
    exact ⟨⟨w, by rw [List.getElem?_set_ne q]; exact h2, t.gr e fun _ _ => rfl⟩, h3⟩
def Alz (S : Sx) (F H0 : Hp) (Z : Addr → Prop) (ρ : Env') (σ : L2.St) (H : Hp) (r j n : Nat) (p : Foc) : Prop :=
  ∃ o v v' U', OkAt S.c F H0 Z ρ o σ H ∧ σ[j]? = some (some v) ∧ σ[r]? = some (some v') ∧ Zip S.c (hid H (hz Z ρ o [])) H n v (o j) p.1 v' p.2.1 p.2.2 U'
structure SemAl (S : Sx) (r j : Nat) (s : Stmt) (f : Foc → Env' → Res) : Prop where
  ex : ∃ t, (∀ X, S.At X → PS X s t) ∧ ∀ p ρ F H0 Z σ H Dn n d, ρ[j]? = some (.ow n d) → Alz S F H0 Z ρ σ H r j n p → PostS S F H0 Z Dn (f p ρ) → t Dn σ H
structure SemAls (S : Sx) (r j : Nat) (s : List Stmt) (f : Foc → Env' → Res) : Prop where
  ex : ∃ t, (∀ X, S.At X → PSs X s t) ∧ ∀ p ρ F H0 Z σ H Dn n d, ρ[j]? = some (.ow n d) → Alz S F H0 Z ρ σ H r j n p → PostS S F H0 Z Dn (f p ρ) → t Dn σ H
theorem sal_plain {r j : Nat} {ss : List Stmt} {f : Env' → Res} (h : SemSs S ss f) : SemAls S r j ss (fun _ => f) := by
  obtain ⟨t, p, q⟩ := h.ex
  exact ⟨⟨t, p, fun _ ρ F H0 Z σ H Dn n d _ ⟨o, _, _, _, k, _⟩ h => q ρ F H0 Z σ H Dn ⟨o, k⟩ h⟩⟩
theorem sal_one {r j : Nat} {s : Stmt} {f : Foc → Env' → Res} (h : SemAl S r j s f) : SemAls S r j [s] f := by
  obtain ⟨t, p, q⟩ := h.ex
  exact ⟨⟨t, fun X hX => pss_one (p X hX), q⟩⟩
/-- the view, the part seen by its name -/
theorem Alz.view {c : Cz} {F H0 H : Hp} {Z : Addr → Prop} {ρ : Env'} {o : Nat → List Addr} {σ : L2.St} (k : OkAt c F H0 Z ρ o σ H) {r j n m : Nat} {d d' : D} {v v' : V} {put : D → D} {U' : List Addr} {M : List Nat} (hj : ρ[j]? = some (.ow n d)) (hr : σ[r]? = some (some v')) (zp : Zip c (hid H (hz Z ρ o [])) H n v (o j) m v' d' put U') (hM : j ∈ M) :
    Vok c (hid H (hz Z ρ o M)) ((vw M ρ).set r (some d')) σ := by
  obtain ⟨h1, h2⟩ := k.view (M := M)
  refine ⟨by rw [List.length_set]; exact h1, fun i x h => ?_⟩
  by_cases q : r = i
  · subst q
    rw [List.getElem?_set] at h
    split at h
    · split at h
      · cases h
        refine ⟨v', hr, ?_⟩
        have e : Gr (hid H (hz Z ρ o [])) (hid H (hz Z ρ o M)) := (Gr.refl H).hid2 fun a => hz_nil
        refine zp.tree.rp e fun a ha => hid_no fun z => ?_
        have ha := zp.sub a ha
        rcases z with z | ⟨l, m', d2, l1, l2, l3⟩
        · exact ((k.ow j n d hj).2 a ha).2 z
        · exact k.inj j l n m' d d2 hj l1 (fun q => l2 (q ▸ hM)) a ha l3
      · cases h
    · contradiction
  · rw [List.getElem?_set_ne q] at h
    exact h2 i x h
def sifA (r : Nat) (M : List Nat) (c : Vw → Rv Bool) (f g : Foc → Env' → Res) (p : Foc) (ρ : Env') : Res := (c ((vw M ρ).set r (some p.2.1))).st fun b => if b = true then f p ρ else g p ρ
theorem sal_if {r j : Nat} {c : Expr} {a b : List Stmt} {fc : Vw → Rv Bool} {f g : Foc → Env' → Res} {pos : Pos} (M : List Nat) (hc : SemT S c fc) (ha : SemAls S r j a f) (hb : SemAls S r j b g) (hM : j ∈ M := by decide) : SemAl S r j (.If c a b pos) (sifA r M fc f g) := by
  obtain ⟨t, p, q⟩ := hc.ex
  obtain ⟨t1, p1, q1⟩ := ha.ex
  obtain ⟨t2, p2, q2⟩ := hb.ex
  refine ⟨⟨_, fun X hX => ps_if (p X hX) (p1 X hX) (p2 X hX), fun pp ρ F H0 Z σ H Dn n d hj ⟨o, v, v', U', k, s1, s2, zp⟩ h => ?_⟩⟩
  refine q _ σ H (hz Z ρ o M) _ k.hin (Alz.view k hj s2 zp hM) (run_eg (R := RT) k h fun d v H' _ g' k' r' h' => ?_)
  cases (show v = d from r')
  have tr := (k.ow j _ _ hj).1
  obtain ⟨w, w1, tr⟩ := tr
  have A : Alz S F H0 Z ρ σ H' r j n pp := ⟨o, _, v', U', k', s1, s2, zp.gr (g'.hid _) fun a ha => tr.same g' ha⟩
  cases d with
  | true => exact q1 pp ρ F H0 Z σ H' Dn n _ hj A h'
  | false => exact q2 pp ρ F H0 Z σ H' Dn n _ hj A h'
/-- x = y[i]; then a statement that may change y by x -/
def alA (r j : Nat) (M : List Nat) (fp : Vw → Nat → D → Rv Foc) (f : Foc → Env' → Res) (ρ : Env') : Res := match ρ[j]? with
  | some (.ow n d) => if r ≠ j ∧ r < ρ.length then (fp (vw M ρ) n d).st fun p => f p (ρ.set r .un) else .un
  | _ => .un
theorem sss_alias {r j : Nat} {x : Str} {e : Expr} {s : Stmt} {rest : List Stmt} {fp : Vw → Nat → D → Rv Foc} {f : Foc → Env' → Res} {g : Env' → Res} {pos pos' : Pos} (M : List Nat) (hp : SemPb S j e fp) (h1 : SemAl S r j s f) (h2 : SemSs S rest g) (hi : S.N[r]? = some x := by rfl) (hx : L2.Loc S.sc x := by first | exact Or.inl rfl | exact Or.inr rfl) (hst : S.st x = true := by rfl)
    (hs : ∀ env, swapsWith e (some (.Name x pos')) pos.line env = pure false := by intro _; rfl) : SemSs S (.Assign [.Name x pos'] e pos :: s :: rest) (sseq (alA r j M fp f) g) := by
  obtain ⟨te, pe, qe⟩ := hp.ex
  obtain ⟨t1, p1, q1⟩ := h1.ex
  obtain ⟨t2, p2, q2⟩ := h2.ex
  refine ⟨⟨_, fun X hX => pss_cons (ps_set hX.nd (by rw [hX.hN]; exact hi) (by rw [hX.hsc]; exact hx) (pe X hX) (hs _) (hX.fnl x hx hst)) (pss_cons (p1 X hX) (p2 X hX)), fun ρ F H0 Z σ H Dn ⟨o, k⟩ h => ?_⟩⟩
  have go : PostS S F H0 Z { Dn with nx := t2 Dn } (alA r j M fp f ρ) := by
    unfold sseq at h
    cases er : alA r j M fp f ρ with
    | nx ρ' =>
      rw [er] at h
      exact fun σ' H' k' => q2 ρ' F H0 Z σ' H' Dn k' h
    | un => rw [er] at h; exact h
    | rt d => rw [er] at h; exact h
    | bk d => rw [er] at h; exact h
    | ct d => rw [er] at h; exact h
    | xc d => rw [er] at h; exact h
  clear h
  unfold alA at go
  split at go
  · rename_i n d hj
    split at go
    · rename_i hc
      obtain ⟨c1, c2⟩ := hc
      obtain ⟨⟨v0, s1, tr⟩, s2⟩ := k.ow j _ _ hj
      refine qe (vw M ρ) σ H (hz Z ρ o []) (hz Z ρ o M) n d v0 (o j) _ (fun a => hz_nil) k.hin k.view s1 tr ?_
      cases ep : fp (vw M ρ) n d with
      | un => rw [ep] at go; exact go
      | xc x => rw [ep] at go; exact fun cls dx H' e q => go cls dx σ H' (k.gr.trans e) (k.out e) (q.gr ((Gr.refl H').hid2 fun a z => .inl z))
      | ok pp =>
        obtain ⟨m, d', put⟩ := pp
        rw [ep] at go
        simp only [Rv.st_ok] at go
        intro v' U' H1 g1 zp
        have k1 := k.grow g1
        have kd := k1.drop r (some v')
        have sub : ∀ a, hz Z (ρ.set r .un) o [] a → hz Z ρ o [] a := fun a h => h.imp id fun ⟨l, n', e', l1, l2, l3⟩ => by
          refine ⟨l, n', e', ?_, l2, l3⟩
          by_cases q : r = l
          · subst q
            rw [List.getElem?_set_self c2] at l1
            cases l1
          · rw [List.getElem?_set_ne q] at l1; exact l1
        refine q1 (m, d', put) (ρ.set r .un) F H0 Z (σ.set r (some v')) H1 _ n d (by rw [List.getElem?_set_ne c1]; exact hj) ⟨o, v0, v', U', kd, ?_, ?_, ?_⟩ go
        · rw [List.getElem?_set_ne c1]; exact s1
        · rw [List.getElem?_set_self (by rw [k.len]; exact c2)]
        · exact zp.gr ((Gr.refl H1).hid2 sub) fun _ _ => rfl
    · exact False.elim go
  · exact False.elim go
/-- x.append(e), x a name for a part of slot j's tree -/
def apA (r j : Nat) (M : List Nat) (f : Vw → Rv D) (p : Foc) (ρ : Env') : Res := match ρ[j]? with
  | some (.ow n _) => (match p with
    | (_ + 1, .list xs, put) => (f ((vw M ρ).set r (some (.list xs)))).st fun y => if xs.length < 16000000 ∧ imm y = true then .nx (ρ.set j (.ow n (put (.list (xs ++ [y]))))) else .un
    | _ => .un)
  | _ => .un
theorem sal_app {r j : Nat} {x : Str} {e : Expr} {f : Vw → Rv D} {p1 p2 p3 p4 : Pos} (M : List Nat) (he : SemE S e f) (hN : S.N[r]? = some x := by rfl) (hv : Vis S.sc x := by first | exact Or.inl rfl | exact Or.inr (Or.inl rfl) | exact Or.inr (Or.inr rfl)) (hd : (x == ("__debug__" : Str)) = false := by decide)
    (hcd : (x == ("__classdict__" : Str)) = false := by decide) (hM : j ∈ M := by decide) (hbase : ∀ env, attributeBase (.Name x p1) "append" env (eval (.Name x p1) env) = eval (.Name x p1) env := by intro _; rfl)
    (hfew : ∀ env, ((backTo p3 (starEach [e] env)).all (fun x => !x.1) && (backToKw p3 (keywordEach [] env)).all (fun x => x.1.isSome)
      && decide (([e] : List Expr).length + ([] : List Keyword).length + (if ([] : List Keyword).isEmpty then 0 else 1) < 30)) = true := by intro _; rfl)
    (hline : (p2.endLine == p3.line) = true := by rfl) (hs : ∀ env, starEach [e] env = (false, eval e env) :: starEach [] env := by intro _; rfl) (hplain : ∀ env, (backTo p3 (starEach [] env)).any (·.1) = false := by intro _; rfl)
    (hsw : ∀ env, swapsWith (.Call (.Attribute (.Name x p1) "append" p2) [e] [] p3) none p4.line env = pure false := by intro _; rfl) : SemAl S r j (.Expr (.Call (.Attribute (.Name x p1) "append" p2) [e] [] p3) p4) (apA r j M f) := by
  obtain ⟨t, p, q⟩ := he.ex
  refine ⟨⟨tDrop (tBM S.K "list" rAppend (tVar r) (tCons t tNil)), fun X hX => ?_, fun pp ρ F H0 Z σ H Dn n d hj ⟨o, v, v', U', k, s1, s2, zp⟩ h => ?_⟩⟩
  · rw [← hX.hK]
    exact ps_expr (pe_bm PySem.F.plainAttrs_list PySem.F.slot_list_append PySem.F.type_list_append mt_append (pe_var (by rw [hX.hN]; exact hN) (by rw [hX.hsc]; exact hv) hd hcd) (pa_cons (p X hX) pa_nil (hs _)) (hbase _) (hfew _) hline (hs _) (hplain _)) (hsw _)
  unfold apA at h
  rw [hj] at h
  obtain ⟨m, d', put⟩ := pp
  dsimp only at h zp
  split at h
  · rename_i m' xs put' hq
    cases hq
    obtain ⟨a, vs, W, rfl, rfl, s4, s5, s6⟩ := zp.tree.isL
    refine ⟨_, s2, .inl ⟨rfl, vs, .inl (.inl s4)⟩, ?_⟩
    obtain ⟨⟨w, w1, tr⟩, _⟩ := k.ow j _ _ hj
    refine q _ σ H (hz Z ρ o M) _ k.hin (Alz.view k hj s2 zp hM) (run_eg (R := RE S) k h fun y yv H' _ g2 k' r' h' => ?_)
    have zp' := zp.gr (g2.hid (hz Z ρ o [])) fun a ha => tr.same g2 ha
    split at h'
    · rename_i hlt
      obtain ⟨a', vs', W', ea, hU', w4, w5, w6⟩ := zp'.tree.isL
      cases ea
      cases hU'
      have hl := TreeA.length w5
      refine ⟨a, vs', yv, rfl, rfl, w4, line_gt (by omega), ?_⟩
      have aIn : a ∈ o j := zp'.sub a List.mem_cons_self
      have ry : Rp S.c (hid H' (hz Z ρ o [])) yv y := k'.imm hlt.2 r'
      refine h' _ _ ⟨o, k'.change hj s1 (fun b hb => upd_ne fun z => hb (z ▸ aIn)) fun Hv eh => ?_⟩
      refine zp'.back Hv _ _ eh (fun b hb hn => upd_ne fun z => hn (z ▸ List.mem_cons_self)) ?_
      exact .lst upd_same (TreeA.snoc (.leaf hlt.2 (ry.gr eh)) (TreeA.gr eh (fun b hb => upd_ne fun z => w6 (z ▸ hb)) w5)) w6
    · exact False.elim h'
  · exact False.elim h
/-- x[i] = e, x a name for a part (a row of what can't change) of slot j's tree -/
def ptA (r j : Nat) (M : List Nat) (fi fv : Vw → Rv D) (p : Foc) (ρ : Env') : Res := match ρ[j]? with
  | some (.ow n _) => (match p with
    | (_ + 1, .list xs, put) => (fv ((vw M ρ).set r (some (.list xs)))).st fun y => (fi ((vw M ρ).set r (some (.list xs)))).st fun i => match i with
      | .int i => (match ixN xs.length i with | some q => if imm y = true ∧ immA xs = true then .nx (ρ.set j (.ow n (put (.list (xs.set q y))))) else .un | none => .un)
      | _ => .un
    | _ => .un)
  | _ => .un
theorem TreeA.immNil {c : Cz} {Hv H : Hp} {n : Nat} {vs : List V} : ∀ {ds : List D} {U : List Addr}, immA ds = true → TreeA c Hv H n vs ds U → RpA c Hv vs ds ∧ U = [] := by
  have key : ∀ (N : Nat), (∀ {n : Nat} {v : V} {d : D} {U : List Addr}, sizeOf d ≤ N → imm d = true → Tree c Hv H n v d U → Rp c Hv v d ∧ U = []) ∧ (∀ {n : Nat} {vs : List V} {ds : List D} {U : List Addr}, sizeOf ds ≤ N → immA ds = true → TreeA c Hv H n vs ds U → RpA c Hv vs ds ∧ U = []) := by
    intro N
    induction N with
    | zero =>
      refine ⟨fun {n v d U} hs => ?_, fun {n vs ds U} hs => ?_⟩
      · cases d <;> simp at hs
      · cases ds <;> simp at hs
    | succ N ih =>
      refine ⟨fun {n v d U} hs hi t => ?_, fun {n vs ds U} hs hi t => ?_⟩
      · cases t with
        | leaf0 r => exact ⟨r, rfl⟩
        | leaf _ r => exact ⟨r, rfl⟩
        | lst _ _ _ => simp [imm] at hi
        | tup h1 h2 =>
          rename_i ds
          obtain ⟨a, b⟩ := ih.2 (by simp at hs; omega) (by simpa [imm] using hi) h2
          exact ⟨.tup h1 a, b⟩
        | dctK _ _ _ => simp [imm] at hi
        | dctN _ _ _ _ => simp [imm] at hi
      · cases t with
        | nil => exact ⟨.nil, rfl⟩
        | cons h1 h2 h3 =>
          simp at hs
          simp only [immA, Bool.and_eq_true] at hi
          obtain ⟨a, b⟩ := ih.1 (by omega) hi.1 h1
          obtain ⟨a2, b2⟩ := ih.2 (by omega) hi.2 h2
          exact ⟨.cons a a2, by rw [b, b2]; rfl⟩
  exact fun {ds U} hi t => (key (sizeOf ds)).2 (Nat.le_refl _) hi t
theorem RpA.leavesN {c : Cz} {Hv H : Hp} {n : Nat} {vs : List V} : ∀ {ds : List D}, immA ds = true → RpA c Hv vs ds → TreeA c Hv H n vs ds [] := by
  induction vs with
  | nil => intro ds _ h; cases h; exact .nil
  | cons v vs ih =>
    intro ds hi h
    cases h with
    | cons a b =>
      simp only [immA, Bool.and_eq_true] at hi
      exact .cons (U := []) (W := []) (.leaf hi.1 a) (ih hi.2 b) fun a z => by cases z
theorem RpA.setN {c : Cz} {Hv : Hp} {v : V} {d : D} (h : Rp c Hv v d) {vs : List V} : ∀ {ds : List D} (q : Nat), RpA c Hv vs ds → RpA c Hv (vs.set q v) (ds.set q d) := by
  induction vs with
  | nil => intro ds q r; cases r; exact .nil
  | cons w vs ih =>
    intro ds q r
    cases r with
    | cons a b =>
      cases q with
      | zero => exact .cons h b
      | succ q => exact .cons a (ih q b)
theorem immA_set {ds : List D} {d : D} (h : immA ds = true) (hd : imm d = true) : ∀ q, immA (ds.set q d) = true := by
  induction ds with
  | nil => intro q; exact h
  | cons e ds ih =>
    intro q
    have h : imm e = true ∧ immA ds = true := by simpa [immA] using h
    cases q with
    | zero => simp [immA, hd, h.2]
    | succ q => simp [immA, h.1, ih h.2 q]
theorem sal_put {r j : Nat} {x : Str} {ie ve : Expr} {fi fv : Vw → Rv D} {p1 p2 pos : Pos} (M : List Nat) (hi : SemE S ie fi) (hv : SemE S ve fv) (hN : S.N[r]? = some x := by rfl) (hvis : Vis S.sc x := by first | exact Or.inl rfl | exact Or.inr (Or.inl rfl) | exact Or.inr (Or.inr rfl)) (hd : (x == ("__debug__" : Str)) = false := by decide)
    (hcd : (x == ("__classdict__" : Str)) = false := by decide) (hM : j ∈ M := by decide) (hs : ∀ env, swapsWithSole [.Subscript (.Name x p1) ie p2] ve pos.line env = pure false := by intro _; rfl) (hw : ∀ env, swappedStores [.Subscript (.Name x p1) ie p2] ve env = pure none := by intro _; rfl)
    (h1 : ∀ env, (assignEach [.Subscript (.Name x p1) ie p2] env).map (·.2) = [assign (.Subscript (.Name x p1) ie p2) env] := by intro _; rfl)
    (ha : ∀ env v, assign (.Subscript (.Name x p1) ie p2) env v = (do
      let ov ← holding [v] (eval (.Name x p1) env)
      let iv ← holding [v, ov] (eval ie env)
      standAt p2
      holding [v, ov, iv] (setItem ov iv v)
      release [v, ov, iv] []) := by intro _ _; rfl) : SemAl S r j (.Assign [.Subscript (.Name x p1) ie p2] ve pos) (ptA r j M fi fv) := by
  obtain ⟨ti, pi, qi⟩ := hi.ex
  obtain ⟨tv, pv, qv⟩ := hv.ex
  refine ⟨⟨tAsg tv (gSub (tVar r) ti rSetL), fun X hX => ?_, fun pp ρ F H0 Z σ H Dn n d hj ⟨o, v, v', U', k, s1, s2, zp⟩ h => ?_⟩⟩
  · exact ps_asg (pv X hX) (pg_sub (pe_var (by rw [hX.hN]; exact hN) (by rw [hX.hsc]; exact hvis) hd hcd) (pi X hX) set_list (ha _)) (hs _) (hw _) (h1 _)
  unfold ptA at h
  rw [hj] at h
  obtain ⟨m, d', put⟩ := pp
  dsimp only at h zp
  split at h
  · rename_i m' xs put' hq
    cases hq
    obtain ⟨⟨w, w1, tr⟩, _⟩ := k.ow j _ _ hj
    refine qv _ σ H (hz Z ρ o M) _ k.hin (Alz.view k hj s2 zp hM) (run_eg (R := RE S) k h fun y yv H1 _ g1 k1 r1 h1 => ?_)
    have zp1 := zp.gr (g1.hid (hz Z ρ o [])) fun a ha => tr.same g1 ha
    refine ⟨v', s2, ?_⟩
    refine qi _ σ H1 (hz Z ρ o M) _ k1.hin (Alz.view k1 hj s2 zp1 hM) (run_eg (R := RE S) k1 h1 fun iD iv H2 _ g2 k2 r2 h2 => ?_)
    obtain ⟨⟨w', w1', tr'⟩, _⟩ := k1.ow j _ _ hj
    have zp2 := zp1.gr (g2.hid (hz Z ρ o [])) fun a ha => tr'.same g2 ha
    obtain ⟨a, vs, W, rfl, rfl, s4, s5, s6⟩ := zp2.tree.isL
    have hl := TreeA.length s5
    cases r2 with
    | int i =>
      have h2 : PostS S F H0 Z Dn (match ixN xs.length i with | some q => if imm y = true ∧ immA xs = true then .nx (ρ.set j (.ow n (put (.list (xs.set q y))))) else .un | none => .un) := h2
      cases ei : ixN xs.length i with
      | none => rw [ei] at h2; exact False.elim h2
      | some q =>
        simp only [ei] at h2
        split at h2
        · rename_i him
          obtain ⟨rx, rfl⟩ := TreeA.immNil him.2 s5
          refine ⟨a, vs, i, q, rfl, rfl, s4, by rw [hl]; exact ei, ?_⟩
          have aIn : a ∈ o j := zp2.sub a List.mem_cons_self
          have ry : Rp S.c (hid H2 (hz Z ρ o [])) yv y := k2.imm him.1 (r1.gr (g2.hid _))
          refine h2 _ _ ⟨o, k2.change hj s1 (fun b hb => upd_ne fun z => hb (z ▸ aIn)) fun Hv eh => ?_⟩
          refine zp2.back Hv _ _ eh (fun b hb hn => upd_ne fun z => hn (z ▸ List.mem_cons_self)) ?_
          exact .lst upd_same (RpA.leavesN (immA_set him.2 him.1 q) (RpA.setN (ry.gr eh) q (RpA.gr eh rx))) (by simp)
        · exact False.elim h2
    | _ => exact False.elim h2
  · exact False.elim h
end
end Bv

namespace Bv
open PySem PySem.Spec L2 PyProof.Rows
/-! ### len(d), d's keys tuples -/
def dLenD : List D → Rv D
  | [.dict ((.none, .int 1) :: ds)] => if ds.length ≤ 16000000 then .ok (.int ds.length) else .un
  | _ => .un
@[simp] theorem dLenD_n (ds : List (D × D)) : dLenD [.dict ((.none, .int 1) :: ds)] = if ds.length ≤ 16000000 then .ok (.int ds.length) else .un := rfl
def rLenN (c : Cz) : List V → Hp → VK → Prop := fun vs H Q => ∃ (a : Addr) (o : Obj) (xs : List (NestedKey × Addr × V)) (ds : List (D × D)), vs = [.ref a] ∧ H a = some (rawO a o) ∧ DN c a o xs ∧ RpN c H xs ds ∧ xs.length ≤ 16000000 ∧ Q (.int xs.length) H
theorem call_lenN {X : Cx} : CallR X (.builtin "len") (rLenN (cz X)) := by
  intro pins s σ H xs us Q I r h
  obtain ⟨a, o, ks, ds, rfl, ha, hn, hr, hl, q⟩ := h
  obtain ⟨u, rfl, rx⟩ := vals1 r
  obtain rfl : u = .ref a := rx
  obtain ⟨us, p, dd⟩ := dn_of I ha hn hr
  have e := Paired.length p
  refine call_len_dictH hn.sm dd (by rw [← e]; omega) ?_
  rw [← e]
  exact ⟨.int (ks.length : Int), H, I.tok _, ⟨_, rfl⟩, q⟩
section
variable {S : Sx}
theorem on_lenN : OpN S (rLenN S.c) dLenD := by
  intro xs ds H Z Q σ z r h
  cases r with
  | nil => exact False.elim h
  | cons r1 r2 =>
    cases r2 with
    | cons _ _ => cases r1 <;> exact False.elim h
    | nil =>
      cases r1 with
      | @dctN a o ks ds h1 h2 h3 =>
        rw [dLenD_n] at h
        split at h
        · rename_i hl
          have e := RpN.length h3
          refine ⟨a, o, ks, ds, rfl, (hid_some h1).2, h2, RpN.gr (Gr.hid_le H Z) h3, by omega, ?_⟩
          rw [e]
          exact Post.ok (R := RE S) h (.int _)
        · exact False.elim h
      | _ => exact False.elim h
end
end Bv

namespace Bv
open PySem PySem.Spec L2 PyProof.Rows
/-! ### dicts that hold trees of one's own -/
/-- one's own tree is changed, its places too, other things come beside it -/
theorem OkAt.change3 {c : Cz} {F H0 H H' H2 : Hp} {Z : Addr → Prop} {ρ : Env'} {o : Nat → List Addr} {σ : L2.St} (k : OkAt c F H0 Z ρ o σ H) (e0 : Gr H H') {i n m0 : Nat} {d e' : D} {v : V} {W : List Addr} (hi : ρ[i]? = some (.ow m0 e')) (hv : σ[i]? = some (some v))
    (hW : ∀ a ∈ W, a ∈ o i ∨ H a = none) (hH : ∀ a, a ∉ o i → a ∉ W → H2 a = H' a) (r : ∀ Hv, Gr (hid H' fun a => hz Z ρ o [] a ∨ a ∈ W) Hv → Tree c Hv H2 n v d W) :
    OkAt c F H0 Z (ρ.set i (.ow n d)) (fun l => if l = i then W else o l) σ H2 := by
  have hl : i < ρ.length := (List.getElem?_eq_some_iff.mp hi).1
  obtain ⟨_, i3⟩ := k.ow i m0 e' hi
  have cases_ : ∀ {j m x}, (ρ.set i (.ow n d))[j]? = some (Sl.ow m x) → (j = i ∧ m = n ∧ x = d) ∨ (j ≠ i ∧ ρ[j]? = some (.ow m x)) := fun {j m x} h => by
    by_cases q : i = j
    · subst q
      rw [List.getElem?_set_self hl] at h
      cases h
      exact .inl ⟨rfl, rfl, rfl⟩
    · rw [List.getElem?_set_ne q] at h
      exact .inr ⟨Ne.symm q, h⟩
  have old : ∀ {j m x a}, j ≠ i → ρ[j]? = some (Sl.ow m x) → a ∈ o j → a ∉ o i ∧ a ∉ W := fun {j m x a} hne h ha => by
    obtain ⟨⟨w, _, t⟩, _⟩ := k.ow j m x h
    have n1 := k.inj j i m m0 x e' h hi hne a ha
    exact ⟨n1, fun z => (hW a z).elim n1 (t.some ha)⟩
  have nh : ∀ {a}, ¬ hz Z ρ o [] a → a ∉ W → ¬ hz Z (ρ.set i (.ow n d)) (fun l => if l = i then W else o l) [] a := fun {a} h1 nw => by
    rintro (z | ⟨j, m, x, j1, _, j3⟩)
    · exact h1 (.inl z)
    · rcases cases_ j1 with ⟨rfl, _⟩ | ⟨hne, j1⟩
      · simp only [if_true] at j3; exact nw j3
      · simp only [if_neg hne] at j3; exact h1 (.inr ⟨j, m, x, j1, by simp, j3⟩)
  have e : Gr (hid H (hz Z ρ o [])) (hid H2 (hz Z (ρ.set i (.ow n d)) (fun l => if l = i then W else o l) [])) := fun a w h => by
    obtain ⟨h1, h2⟩ := hid_some h
    have na : a ∉ o i := fun z => h1 (.inr ⟨i, m0, e', hi, by simp, z⟩)
    have nw : a ∉ W := fun z => (hW a z).elim na fun q => by rw [q] at h2; cases h2
    rw [hid_no (nh h1 nw), hH a na nw]
    exact e0 _ _ h2
  have eR : Gr (hid H' fun a => hz Z ρ o [] a ∨ a ∈ W) (hid H2 (hz Z (ρ.set i (.ow n d)) (fun l => if l = i then W else o l) [])) := fun a w h => by
    obtain ⟨h1, h2⟩ := hid_some h
    have na : a ∉ o i := fun z => h1 (.inl (.inr ⟨i, m0, e', hi, by simp, z⟩))
    have nw : a ∉ W := fun z => h1 (.inr z)
    rw [hid_no (nh (fun z => h1 (.inl z)) nw), hH a na nw]
    exact h2
  refine ⟨by simp [k.len], fun j x h => ?_, fun j m x h => ?_, fun j1 j2 m1 m2 x y h1 h2 q => ?_, fun a w h => ?_, k.fr.trans e, k.zin⟩
  · by_cases q : i = j
    · subst q
      rw [List.getElem?_set_self hl] at h
      cases h
    · rw [List.getElem?_set_ne q] at h
      obtain ⟨w, h1, h2⟩ := k.fz j x h
      exact ⟨w, h1, h2.gr e⟩
  · rcases cases_ h with ⟨rfl, rfl, rfl⟩ | ⟨hne, h⟩
    · simp only [if_true]
      refine ⟨⟨v, hv, r _ eR⟩, fun a ha => ?_⟩
      rcases hW a ha with z | z
      · exact i3 a z
      · exact ⟨k.gr.free z, fun y => k.zin.gr k.gr a y z⟩
    · simp only [if_neg hne]
      obtain ⟨⟨w, h2, t⟩, h3⟩ := k.ow j m x h
      exact ⟨⟨w, h2, t.gr e fun a ha => (hH a (old hne h ha).1 (old hne h ha).2).trans (t.same e0 ha)⟩, h3⟩
  · intro a
    rcases cases_ h1 with ⟨e1, _⟩ | ⟨n1, g1⟩
    · rcases cases_ h2 with ⟨e2, _⟩ | ⟨n2, g2⟩
      · exact absurd (e1.trans e2.symm) q
      · simp only [if_pos e1, if_neg n2]
        exact fun h3 h4 => (old n2 g2 h4).2 h3
    · rcases cases_ h2 with ⟨e2, _⟩ | ⟨n2, g2⟩
      · simp only [if_neg n1, if_pos e2]
        exact fun h3 h4 => (old n1 g1 h3).2 h4
      · simp only [if_neg n1, if_neg n2]
        exact k.inj j1 j2 m1 m2 x y g1 g2 q a
  · have hw := k.gr _ _ h
    rw [hH a (fun z => by rw [(i3 a z).1] at h; cases h) fun z => (hW a z).elim (fun z => by rw [(i3 a z).1] at h; cases h) fun q => by rw [q] at hw; cases hw]
    exact e0 _ _ hw
section
variable {S : Sx}
def asgDT (i n : Nat) (ρ : Env') : Res := if i < ρ.length then .nx (ρ.set i (.ow (n + 1) (.dict [(.none, .int 0)]))) else .un
theorem ss_dnewT {i n : Nat} {x : Str} {p1 p2 pos : Pos} (hi : S.N[i]? = some x := by rfl) (hx : L2.Loc S.sc x := by first | exact Or.inl rfl | exact Or.inr rfl) (hst : S.st x = true := by rfl) (hs : ∀ env, swapsWith (.Dict [] [] p2) (some (.Name x p1)) pos.line env = pure false := by intro _; rfl) :
    SemS S (.Assign [.Name x p1] (.Dict [] [] p2) pos) (asgDT i n) := by
  refine ⟨⟨tAsg tDNewK (gName i), fun X hX => ?_, fun ρ F H0 Z σ H Dn ⟨o, k⟩ h => fun p hp => ?_⟩⟩
  · exact ps_set hX.nd (by rw [hX.hN]; exact hi) (by rw [hX.hsc]; exact hx) pe_dnewK (hs _) (hX.fnl x hx hst)
  · unfold asgDT at h
    split at h
    · rename_i hl
      refine h _ _ ⟨_, k.layT (U := [p]) (Gr.new hp) (fun a ha => by rw [List.mem_singleton.mp ha]; exact hp) hl fun Hv _ => .dctK (U := []) upd_same .nil (by simp)⟩
    · exact False.elim h
/-- an entry stored into a dict of trees -/
theorem TreeK.put {c : Cz} {Hv H : Hp} {n : Nat} {k : Key} {v : V} {d : D} {W : List Addr} (hd : Tree c Hv H n v d W) : ∀ {kvs : List (Key × V)} {ds : List (D × D)} {U : List Addr}, TreeK c Hv H n kvs ds U → (∀ a ∈ U, a ∉ W) → (ds.filterMap fun p => keyK p.1).Nodup →
    ∃ U2, (∀ a ∈ U2, a ∈ U ∨ a ∈ W) ∧ TreeK c Hv H n (putK kvs k v) (storeK ds k d) U2 := by
  have app : ∀ {kvs : List (Key × V)} {ds : List (D × D)} {U : List Addr}, TreeK c Hv H n kvs ds U → (∀ a ∈ U, a ∉ W) → TreeK c Hv H n (kvs ++ [(k, v)]) (ds ++ [(kD k, d)]) (U ++ W) := by
    intro kvs
    induction kvs with
    | nil =>
      intro ds U h _
      cases h
      have := TreeK.cons (k := k) hd (.nil (c := c) (Hv := Hv) (H := H) (n := n)) (fun a _ z => by cases z)
      rw [List.append_nil] at this
      exact this
    | cons p kvs ih =>
      intro ds U h hU
      cases h with
      | @cons _ _ _ _ _ _ U1 W1 a1 a2 a3 =>
        rw [List.append_assoc]
        exact .cons a1 (ih a2 fun a ha => hU a (List.mem_append_right _ ha)) fun a ha z => (List.mem_append.mp z).elim (a3 a ha) (hU a (List.mem_append_left _ ha))
  have none_ : ∀ {kvs : List (Key × V)} {ds : List (D × D)} {U : List Addr}, TreeK c Hv H n kvs ds U → k ∉ (ds.filterMap fun p => keyK p.1) → (ds.map (fun p => if keyK p.1 = some k then (p.1, d) else p) = ds) ∧ (kvs.map (fun p => if p.1 = k then (p.1, v) else p) = kvs) := by
    intro kvs
    induction kvs with
    | nil => intro ds U h _; cases h; exact ⟨rfl, rfl⟩
    | cons p kvs ih =>
      intro ds U h hn
      cases h with
      | @cons _ k0 v0 _ d0 ds U1 W1 a1 a2 a3 =>
        rw [List.filterMap_cons_some (f := fun p : D × D => keyK p.1) (a := (kD k0, d0)) (b := k0) (kD_keyK _)] at hn
        obtain ⟨b1, b2⟩ := ih a2 fun z => hn (List.mem_cons_of_mem _ z)
        have ne : k0 ≠ k := fun z => hn (z ▸ List.mem_cons_self)
        refine ⟨?_, ?_⟩
        · rw [List.map_cons, b1, if_neg]
          rw [kD_keyK]; simpa using ne
        · rw [List.map_cons, b2, if_neg ne]
  have rep : ∀ {kvs : List (Key × V)} {ds : List (D × D)} {U : List Addr}, TreeK c Hv H n kvs ds U → (∀ a ∈ U, a ∉ W) → (ds.filterMap fun p => keyK p.1).Nodup → ∃ U2, (∀ a ∈ U2, a ∈ U ∨ a ∈ W) ∧ TreeK c Hv H n (kvs.map fun p => if p.1 = k then (p.1, v) else p) (ds.map fun p => if keyK p.1 = some k then (p.1, d) else p) U2 := by
    intro kvs
    induction kvs with
    | nil => intro ds U h _ _; cases h; exact ⟨[], by simp, .nil⟩
    | cons p kvs ih =>
      intro ds U h hU hn
      cases h with
      | @cons _ k0 v0 _ d0 ds U1 W1 a1 a2 a3 =>
        rw [List.filterMap_cons_some (f := fun p : D × D => keyK p.1) (a := (kD k0, d0)) (b := k0) (kD_keyK _)] at hn
        obtain ⟨n1, n2⟩ := List.nodup_cons.mp hn
        by_cases ek : k0 = k
        · subst ek
          obtain ⟨b1, b2⟩ := none_ a2 n1
          refine ⟨W ++ W1, fun a ha => ?_, ?_⟩
          · rcases List.mem_append.mp ha with ha | ha
            · exact .inr ha
            · exact .inl (List.mem_append_right _ ha)
          · rw [List.map_cons, List.map_cons, b1, b2, if_pos rfl, if_pos (kD_keyK _)]
            exact .cons hd a2 fun a ha z => hU a (List.mem_append_right _ z) ha
        · obtain ⟨U2, c1, c2⟩ := ih a2 (fun a ha => hU a (List.mem_append_right _ ha)) n2
          refine ⟨U1 ++ U2, fun a ha => ?_, ?_⟩
          · rcases List.mem_append.mp ha with ha | ha
            · exact .inl (List.mem_append_left _ ha)
            · exact (c1 a ha).imp (List.mem_append_right _) id
          · rw [List.map_cons, List.map_cons, if_neg ek, if_neg (by rw [kD_keyK]; simpa using ek)]
            exact .cons a1 c2 fun a ha z => (c1 a z).elim (a3 a ha) (hU a (List.mem_append_left _ ha))
  intro kvs ds U h hU hn
  have same : (lookK ds k).isSome = (kvs.any fun kv => decide (kv.1 = k)) := by
    clear hU hn
    induction ds generalizing kvs U with
    | nil => cases h; rfl
    | cons p ds ih =>
      cases h with
      | @cons _ k0 v0 vs d0 _ U1 W1 a1 a2 a3 =>
        have := ih a2
        unfold lookK at *
        rw [List.find?_cons, List.any_cons]
        by_cases ek : k0 = k
        · subst ek
          simp [kD_keyK]
        · have e1 : decide (keyK (kD k0) = some k) = false := decide_eq_false (by rw [kD_keyK]; simpa using ek)
          simp only [e1, decide_eq_false ek, Bool.false_or]
          exact this
  unfold putK storeK
  by_cases hs : (lookK ds k).isSome = true
  · rw [if_pos hs, if_pos (by rw [← same]; exact hs)]
    exact rep h hU hn
  · rw [if_neg hs, if_neg (by rw [← same]; exact hs)]
    exact ⟨U ++ W, fun a ha => List.mem_append.mp ha, app h hU⟩
theorem TreeK.lenE {c : Cz} {Hv H : Hp} {n : Nat} {kvs : List (Key × V)} : ∀ {ds : List (D × D)} {U : List Addr}, TreeK c Hv H n kvs ds U → kvs.length = ds.length := by
  induction kvs with
  | nil => intro ds U h; cases h; rfl
  | cons p kvs ih => intro ds U h; cases h with | cons a1 a2 a3 => simp [ih a2]
/-- x[e] = a tree of one's own, x a dict of such -/
def dputT (j n : Nat) (M : List Nat) (fk fv : Vw → Rv D) (ρ : Env') : Res := match ρ[j]? with
  | some (.ow m (.dict ((.none, .int 0) :: ds))) => if m = n + 1 ∧ M.contains j = false ∧ (ds.filterMap fun p => keyK p.1).Nodup then (fv (vw M ρ)).st fun v => (fk (vw [] ρ)).st fun e => match keyK e with
      | some kk => if ds.length < 16000000 then .nx ((frz M ρ).set j (.ow (n + 1) (.dict ((.none, .int 0) :: storeK ds kk v)))) else .un
      | none => .un
    else .un
  | _ => .un
theorem ss_dputT {j n : Nat} {x : Str} {ke ve : Expr} {fk fv : Vw → Rv D} {p1 p2 pos : Pos} (M : List Nat) (hk : SemE S ke fk) (hv : SemX S n ve fv) (hN : S.N[j]? = some x := by rfl) (hvis : Vis S.sc x := by first | exact Or.inl rfl | exact Or.inr (Or.inl rfl) | exact Or.inr (Or.inr rfl)) (hd : (x == ("__debug__" : Str)) = false := by decide)
    (hcd : (x == ("__classdict__" : Str)) = false := by decide) (hs : ∀ env, swapsWith ve (some (.Subscript (.Name x p1) ke p2)) pos.line env = pure false := by intro _; rfl) : SemS S (.Assign [.Subscript (.Name x p1) ke p2] ve pos) (dputT j n M fk fv) := by
  obtain ⟨tk, pk, qk⟩ := hk.ex
  obtain ⟨tv, pv, qv⟩ := hv.ex
  refine ⟨⟨tPutA S.c (tVar j) tk tv, fun X hX => ?_, fun ρ F H0 Z σ H Dn ⟨o, k⟩ h => ?_⟩⟩
  · rw [← At.cz hX]
    exact ps_putA hX.units (pe_var (by rw [hX.hN]; exact hN) (by rw [hX.hsc]; exact hvis) hd hcd) (pk X hX) (pv X hX) (hs _)
  unfold dputT at h
  split at h
  · rename_i m ds hj
    split at h
    · rename_i hc
      obtain ⟨rfl, c2, c3⟩ := hc
      refine qv (vw M ρ) σ H (hz Z ρ o M) _ k.hin k.view (run_x k h fun v w H1 U _ e1 hU tw h1 => ?_)
      have k1 := k.grow e1
      obtain ⟨⟨v0, s1, tr⟩, s2⟩ := k.ow j _ _ hj
      refine ⟨v0, s1, ?_⟩
      refine qk (vw [] ρ) σ H1 (hz Z ρ o []) _ k1.hin k1.view ?_
      cases ek : fk (vw [] ρ) with
      | un => rw [ek] at h1; exact h1
      | xc x' => rw [ek] at h1; exact fun cls dx H' e q => h1 cls dx σ H' (k1.gr.trans e) (k1.out e) (q.gr ((Gr.refl H').hid2 fun a z => .inl z))
      | ok e =>
        rw [ek] at h1
        intro kv H2 e2 r2
        simp only [Rv.st_ok] at h1
        cases eq : keyK e with
        | none => rw [eq] at h1; exact False.elim h1
        | some kk =>
          simp only [eq] at h1
          split at h1
          · rename_i hl
            have oj : ∀ a ∈ o j, hz Z ρ o M a := fun a ha => .inr ⟨j, _, _, hj, by simpa using c2, ha⟩
            have tr0 := tr
            obtain ⟨OJ, eU⟩ : ∃ OJ, OJ = o j := ⟨_, rfl⟩
            rw [← eU] at tr
            cases tr with
            | leaf i _ => simp [imm] at i
            | @dctK _ a kvs _ U0 g1 g2 g3 =>
              have aO : a ∈ o j := by rw [← eU]; exact List.mem_cons_self
              have uO : ∀ x ∈ U0, x ∈ o j := fun x hx => by rw [← eU]; exact List.mem_cons_of_mem _ hx
              have e12 := e1.trans e2
              have some_ : ∀ x ∈ o j, H x ≠ none := fun x hx => tr0.some hx
              have g2' : TreeK S.c (hid H2 fun x => hz Z ρ o M x ∨ (x ∈ o j ∨ x ∈ U)) H2 n kvs ds U0 := by
                refine TreeK.gr (fun x wv hx => ?_) (fun x hx => ?_) g2
                · obtain ⟨q1, q2⟩ := hid_some hx
                  rw [hid_no]
                  · exact e12 _ _ q2
                  · rintro (z | z | z)
                    · exact q1 (hz_nil z)
                    · exact q1 (hz_nil (oj x z))
                    · rw [hU x z] at q2; cases q2
                · cases qx : H x with
                  | none => exact absurd qx (some_ x (uO x hx))
                  | some ob => exact e12 _ _ qx
              have tw' : Tree S.c (hid H2 fun x => hz Z ρ o M x ∨ (x ∈ o j ∨ x ∈ U)) H2 n w v U := by
                refine Tree.gr (fun x wv hx => ?_) (fun x hx => tw.same e2 hx) tw
                obtain ⟨q1, q2⟩ := hid_some hx
                rw [hid_no]
                · exact e2 _ _ q2
                · rintro (z | z | z)
                  · exact q1 (.inl z)
                  · exact q1 (.inl (oj x z))
                  · exact q1 (.inr z)
              obtain ⟨U2, u1, u2⟩ := TreeK.put (k := kk) tw' g2' (fun x hx z => some_ x (uO x hx) (hU x z)) c3
              have aU2 : a ∉ U2 := fun z => (u1 a z).elim g3 fun z => some_ a aO (hU a z)
              refine .inr ⟨a, _, rfl, .inl ⟨kvs, kk, e12 _ _ g1, r2.key eq, ?_, rfl⟩, h1 σ _ ⟨_, (k.freeze M).change3 e12 (n := n + 1) (W := a :: U2) (v := .ref a) (frz_of hj (by simpa using c2)) s1 (fun x hx => ?_) (fun x hx _ => upd_ne fun z => hx (z ▸ aO)) fun Hv eh => ?_⟩⟩
              · have : kvs.length = ds.length := TreeK.lenE g2
                exact Nat.lt_of_lt_of_le (show kvs.length < 16000000 by omega) (by decide)
              · rcases List.mem_cons.mp hx with rfl | hx
                · exact .inl aO
                · exact (u1 x hx).imp (uO x) (hU x)
              · refine .dctK upd_same (TreeK.gr (Gr.trans ((Gr.refl H2).hid2 fun x z => ?_) eh) (fun x hx => upd_ne fun z => aU2 (z ▸ hx)) u2) aU2
                rcases z with z | z
                · exact .inl ((hz_frz x).mp z)
                · rcases List.mem_cons.mp z with rfl | z
                  · exact .inr (.inl aO)
                  · exact .inr ((u1 x z).imp (uO x) id)
          · exact False.elim h1
    · exact False.elim h
  · exact False.elim h
/-! ### return [x[y] for y in ..], x a dict of trees of one's own -/
def takeK (ds : List (D × D)) : List D → Option (List D)
  | [] => some []
  | x :: xs => match keyK x with
    | some k => (match lookK ds k, takeK ds xs with | some v, some vs => some (v :: vs) | _, _ => none)
    | none => none
theorem TreeK.pick {c : Cz} {Hv H : Hp} {n : Nat} {kvs : List (Key × V)} : ∀ {ds : List (D × D)} {U : List Addr}, TreeK c Hv H n kvs ds U →
    ∃ A : Key → List Addr, (∀ k a, a ∈ A k → a ∈ U) ∧ (∀ k k', k ≠ k' → ∀ a ∈ A k, a ∉ A k') ∧ ∀ k d, lookK ds k = some d → ∃ v, valV kvs k = some v ∧ Tree c Hv H n v d (A k) := by
  induction kvs with
  | nil => intro ds U h; cases h; exact ⟨fun _ => [], by simp, by simp, fun k d e => by cases e⟩
  | cons p kvs ih =>
    intro ds U h
    cases h with
    | @cons _ k0 v0 _ d0 ds U1 W1 a1 a2 a3 =>
      obtain ⟨A, b1, b2, b3⟩ := ih a2
      refine ⟨fun k => if k = k0 then U1 else A k, fun k a ha => ?_, fun k k' hk a ha hb => ?_, fun k d e => ?_⟩ <;> dsimp only at *
      · by_cases q : k = k0
        · rw [if_pos q] at ha; exact List.mem_append_left _ ha
        · rw [if_neg q] at ha; exact List.mem_append_right _ (b1 k a ha)
      · by_cases q : k = k0
        · rw [if_pos q] at ha
          have q' : k' ≠ k0 := fun z => hk (q.trans z.symm)
          rw [if_neg q'] at hb
          exact a3 a ha (b1 k' a hb)
        · rw [if_neg q] at ha
          by_cases q' : k' = k0
          · rw [if_pos q'] at hb; exact a3 a hb (b1 k a ha)
          · rw [if_neg q'] at hb; exact b2 k k' hk a ha hb
      · unfold lookK valV at *
        rw [List.find?_cons] at e
        rw [List.find?_cons]
        by_cases q : k0 = k
        · subst q
          simp only [kD_keyK, decide_true, Option.map_some, Option.some.injEq] at e
          subst e
          exact ⟨v0, by simp, by simpa using a1⟩
        · have e1 : decide (keyK (kD k0) = some k) = false := decide_eq_false (by rw [kD_keyK]; simpa using q)
          simp only [e1] at e
          obtain ⟨v, c1, c2⟩ := b3 k d e
          simp only [decide_eq_false q]
          exact ⟨v, c1, by rw [if_neg (Ne.symm q)]; exact c2⟩
theorem takeK_tree {c : Cz} {Hv H : Hp} {n : Nat} {kvs : List (Key × V)} {ds : List (D × D)} {A : Key → List Addr} (h2 : ∀ k k', k ≠ k' → ∀ a ∈ A k, a ∉ A k') (h3 : ∀ k d, lookK ds k = some d → ∃ v, valV kvs k = some v ∧ Tree c Hv H n v d (A k)) :
    ∀ {xs ys : List D}, takeK ds xs = some ys → (xs.filterMap keyK).Nodup → ∃ vs U', TreeA c Hv H n vs ys U' ∧ (∀ a ∈ U', ∃ k ∈ xs.filterMap keyK, a ∈ A k) ∧ vs.length = xs.length ∧ ∀ (i : Nat) (x : D), xs[i]? = some x → ∃ k v, keyK x = some k ∧ valV kvs k = some v ∧ vs[i]? = some v
  | [], ys, e, _ => by cases e; exact ⟨[], [], .nil, by simp, rfl, by simp⟩
  | x :: xs, ys, e, hn => by
    unfold takeK at e
    cases ek : keyK x with
    | none => rw [ek] at e; cases e
    | some k =>
      simp only [ek] at e
      cases el : lookK ds k with
      | none => rw [el] at e; cases e
      | some d =>
        cases et : takeK ds xs with
        | none => rw [el, et] at e; cases e
        | some zs =>
          rw [el, et] at e
          cases e
          rw [List.filterMap_cons_some ek] at hn ⊢
          obtain ⟨n1, n2⟩ := List.nodup_cons.mp hn
          obtain ⟨vs, U', q1, q2, q3, q4⟩ := takeK_tree h2 h3 et n2
          obtain ⟨v, c1, c2⟩ := h3 k d el
          refine ⟨v :: vs, A k ++ U', .cons c2 q1 fun a ha hb => ?_, fun a ha => ?_, by simp [q3], fun i y hy => ?_⟩
          · obtain ⟨k', m1, m2⟩ := q2 a hb
            exact h2 k k' (fun z => n1 (z ▸ m1)) a ha m2
          · rcases List.mem_append.mp ha with ha | ha
            · exact ⟨k, List.mem_cons_self, ha⟩
            · obtain ⟨k', m1, m2⟩ := q2 a ha
              exact ⟨k', List.mem_cons_of_mem _ m1, m2⟩
          · cases i with
            | zero => cases hy; exact ⟨k, v, ek, c1, rfl⟩
            | succ i => exact q4 i y hy
def retMv (j i n : Nat) (fi : Vw → Rv D) (ρ : Env') : Res := match ρ[j]? with
  | some (.ow m (.dict ((.none, .int 0) :: ds))) => if m = n + 1 ∧ i < ρ.length then (fi (vw [j] ρ)).st fun d => match d with
      | .list xs => if xs.length ≤ 16000000 ∧ (xs.filterMap keyK).Nodup then (match takeK ds xs with | some ys => .rt (.list ys) | none => .un) else .un
      | _ => .un
    else .un
  | _ => .un
theorem ss_retMv {j i n : Nat} {x y : Str} {iter : Expr} {scope : Scope} {fi : Vw → Rv D} {p1 p2 p3 p4 p5 p6 : Pos} (hi : SemE S iter fi) (hb : blkC S.N S.sc scope [(y, i)] = true) (hN : S.N[j]? = some x := by rfl) (hNi : S.N[i]? = some y := by rfl)
    (hv : Vis (S.blk scope).sc x := by first | exact Or.inl rfl | exact Or.inr (Or.inl rfl) | exact Or.inr (Or.inr rfl)) (hvi : Vis (S.blk scope).sc y := by first | exact Or.inl rfl | exact Or.inr (Or.inl rfl) | exact Or.inr (Or.inr rfl))
    (hx : L2.Loc (S.blk scope).sc y := by first | exact Or.inl rfl | exact Or.inr rfl) (hst : (S.blk scope).st y = true := by rfl)
    (hd : (x == ("__debug__" : Str)) = false := by decide) (hcd : (x == ("__classdict__" : Str)) = false := by decide) (hdi : (y == ("__debug__" : Str)) = false := by decide) (hcdi : (y == ("__classdict__" : Str)) = false := by decide)
    (hne : i ≠ j := by decide) (htr : S.tr = n + 1 := by rfl) (hs : ∀ env x, foldedSetIterable iter env x = pure x := by intro _ _; rfl) :
    SemS S (.Return (some (.ListComp (.Subscript (.Name x p1) (.Name y p2) p3) [⟨.Name y p4, iter, [], 0⟩] scope p5)) p6) (retMv j i n fi) := by
  obtain ⟨ti, pi, qi⟩ := hi.ex
  refine ⟨⟨tRet (tLc (iList S.K ti) (gName i) tYes (tGetA S.c (tVar j) (tVar i)) [i]), fun X hX => ?_, fun ρ F H0 Z σ H Dn ⟨o, k⟩ h => ?_⟩⟩
  · refine ps_ret (pe_lc (own := [(y, i)]) hX.calm hX.nd (by rw [← hX.hK]; exact pi_list (pi X hX)) (blkOk_by (by rw [hX.hN, hX.hsc]; exact hb)) (fun s H C cl fp => ?_) (fun s H C cl fp => pts_nil) (fun s H C cl fp => ?_) (hs _))
    · have hB := hX.blk scope s H C cl fp
      exact pg_name hB.nd (by rw [hB.hN]; exact hNi) (by rw [hB.hsc]; exact hx) (hB.fnl y hx hst)
    · have hB := hX.blk scope s H C cl fp
      have := pe_getA (pos := p3) hB.units (pe_var (i := j) (pos := p1) (by rw [hB.hN]; exact hN) (by rw [hB.hsc]; exact hv) hd hcd) (pe_var (i := i) (pos := p2) (by rw [hB.hN]; exact hNi) (by rw [hB.hsc]; exact hvi) hdi hcdi) (by intro _ _; rfl)
      rw [At.cz hB] at this
      exact this
  · unfold retMv at h
    split at h
    · rename_i m ds hj
      split at h
      · rename_i hc
        obtain ⟨rfl, c2⟩ := hc
        refine qi (vw [j] ρ) σ H (hz Z ρ o [j]) _ k.hin k.view ?_
        cases ef : fi (vw [j] ρ) with
        | un => rw [ef] at h; exact h
        | xc z => rw [ef] at h; exact fun cls dx H' e q => h cls dx σ H' (k.gr.trans e) (k.out e) (q.gr ((Gr.refl H').hid2 fun a z => .inl z))
        | ok d =>
          rw [ef] at h
          simp only [Rv.st_ok] at h
          intro v H1 e r
          split at h
          · rename_i xs
            split at h
            · rename_i hq
              obtain ⟨hl, hn⟩ := hq
              cases et : takeK ds xs with
              | none => rw [et] at h; exact False.elim h
              | some ys =>
                rw [et] at h
                cases r with
                | @lst la ks _ r1 r2 =>
                  refine ⟨la, rfl, ⟨ks, ((Gr.hid_le _ _).rdl r1).sq⟩, fun Dl hD => ?_⟩
                  have k1 := k.grow e
                  obtain ⟨⟨v0, s1, tr⟩, s2⟩ := k1.ow j _ _ hj
                  obtain ⟨OJ, eU⟩ : ∃ OJ, OJ = o j := ⟨_, rfl⟩
                  rw [← eU] at tr
                  cases tr with
                  | leaf q _ => simp [imm] at q
                  | @dctK _ a kvs _ U0 g1 g2 g3 =>
                    obtain ⟨A, b1, b2, b3⟩ := g2.pick
                    obtain ⟨vs, U', q1, q2, q3, q4⟩ := takeK_tree b2 b3 et hn
                    have uO : ∀ b ∈ U', b ∈ o j := fun b hb => by
                      obtain ⟨kk, _, m2⟩ := q2 b hb
                      rw [← eU]
                      exact List.mem_cons_of_mem _ (b1 kk b m2)
                    have na : a ≠ Dl := fun z => by rw [z, hD] at g1; cases g1
                    have hks : ks.length = xs.length := RpA.length r2
                    refine lc_list (xs := ks) (fun i H2 => H2 = upd H1 Dl (.lst (vs.take i))) rfl (fun i H2 _ w => by rw [w]; exact ((Gr.new hD).rdl ((Gr.hid_le _ _).rdl r1)).sq) ?_ ?_
                    · rintro l x H2 hx rfl
                      obtain ⟨d, hd, rd⟩ := RpA.got r2 hx
                      obtain ⟨kk, vv, z1, z2, z3⟩ := q4 l d hd
                      have hi2 : i < σ.length := by rw [k.len]; exact c2
                      refine ⟨?_, ?_⟩
                      · show ((σ.set i none).set i (some x)).set i none = (σ.set i none)
                        simp
                      · unfold tYes
                        dsimp only
                        rw [if_pos rfl]
                        refine ⟨.ref a, ?_, x, ?_, .inr ⟨a, vv, rfl, .inl ⟨kvs, kk, .inl ?_, rd.key z1, z2.symm⟩, vs.take l, upd_same, ?_, ?_⟩⟩
                        · show ((σ.set i none).set i (some x))[j]? = _
                          rw [List.getElem?_set_ne hne, List.getElem?_set_ne hne]
                          exact s1
                        · show ((σ.set i none).set i (some x))[i]? = _
                          rw [List.getElem?_set_self (by simpa using hi2)]
                        · rw [upd_ne na]; exact g1
                        · have : (vs.take l).length ≤ xs.length := by rw [List.length_take]; omega
                          have hl2 := (List.getElem?_eq_some_iff.mp hd).1
                          refine line_gt ?_
                          rw [List.length_take]
                          omega
                        · rw [List.take_add_one, z3]
                          funext b
                          unfold upd
                          split <;> rfl
                    · rintro H2 rfl
                      rw [hks, ← q3, List.take_length]
                      refine h (.ref Dl) _ (Dl :: U') (k1.gr.trans (Gr.new hD)) (fun b hb => ?_) ?_
                      · rcases List.mem_cons.mp hb with rfl | hb
                        · exact k1.gr.free hD
                        · exact (s2 b (uO b hb)).1
                      · rw [htr]
                        have nD : Dl ∉ U' := fun z => by
                          obtain ⟨⟨_, _, t⟩, _⟩ := k1.ow j _ _ hj
                          exact t.some (uO _ z) hD
                        refine .lst upd_same (TreeA.gr (fun b w hb => ?_) (fun b hb => upd_ne fun z => nD (z ▸ hb)) q1) nD
                        obtain ⟨w1, w2⟩ := hid_some hb
                        have nb : b ≠ Dl := fun z => by rw [z, hD] at w2; cases w2
                        rw [hid_no, upd_ne nb]
                        · exact w2
                        · rintro (z | z)
                          · exact w1 (.inl z)
                          · rcases List.mem_cons.mp z with z | z
                            · exact nb z
                            · exact w1 (.inr ⟨j, _, _, hj, by simp, uO b z⟩)
            · exact False.elim h
          · exact False.elim h
      · exact False.elim h
    · exact False.elim h
end
end Bv

namespace Bv
open PySem PySem.Spec L2 PyProof.Rows
section
variable {S : Sx}
/-! ### x = e; if c: .. ; x known no more behind it -/
def letIf (r : Nat) (M : List Nat) (fe : Vw → Rv D) (fc : Vw → Rv Bool) (fb : Env' → Res) (ρ : Env') : Res := if r < ρ.length then (fe (vw M ρ)).st fun d => (fc ((vw M ρ).set r (some d))).st fun b => if b = true then fb (ρ.set r .un) else .nx (ρ.set r .un) else .un
theorem hz_un {Z : Addr → Prop} {ρ : Env'} {o : Nat → List Addr} {M : List Nat} {r : Nat} : ∀ a, hz Z (ρ.set r .un) o M a → hz Z ρ o M a := fun a h => h.imp id fun ⟨l, n', e', l1, l2, l3⟩ => by
  refine ⟨l, n', e', ?_, l2, l3⟩
  by_cases q : r = l
  · subst q
    rw [List.getElem?_set] at l1
    split at l1
    · split at l1 <;> cases l1
    · contradiction
  · rw [List.getElem?_set_ne q] at l1; exact l1
theorem sss_letIf {r : Nat} {x : Str} {e c : Expr} {body rest : List Stmt} {fe : Vw → Rv D} {fc : Vw → Rv Bool} {fb g : Env' → Res} {pos pos' pos2 : Pos} (M : List Nat) (he : SemE S e fe) (hc : SemT S c fc) (hb : SemSs S body fb) (h2 : SemSs S rest g) (hi : S.N[r]? = some x := by rfl) (hx : L2.Loc S.sc x := by first | exact Or.inl rfl | exact Or.inr rfl) (hst : S.st x = true := by rfl)
    (hs : ∀ env, swapsWith e (some (.Name x pos')) pos.line env = pure false := by intro _; rfl) : SemSs S (.Assign [.Name x pos'] e pos :: .If c body [] pos2 :: rest) (sseq (letIf r M fe fc fb) g) := by
  obtain ⟨te, pe, qe⟩ := he.ex
  obtain ⟨tc, pc, qc⟩ := hc.ex
  obtain ⟨tb, pb, qb⟩ := hb.ex
  obtain ⟨t0, p0, q0⟩ := (sss_nil (S := S)).ex
  obtain ⟨t2, p2, q2⟩ := h2.ex
  refine ⟨⟨_, fun X hX => pss_cons (ps_set hX.nd (by rw [hX.hN]; exact hi) (by rw [hX.hsc]; exact hx) (pe X hX) (hs _) (hX.fnl x hx hst)) (pss_cons (ps_if (pc X hX) (pb X hX) (p0 X hX)) (p2 X hX)), fun ρ F H0 Z σ H Dn ⟨o, k⟩ h => ?_⟩⟩
  have go : PostS S F H0 Z { Dn with nx := t2 Dn } (letIf r M fe fc fb ρ) := by
    unfold sseq at h
    cases er : letIf r M fe fc fb ρ with
    | nx ρ' =>
      rw [er] at h
      exact fun σ' H' k' => q2 ρ' F H0 Z σ' H' Dn k' h
    | un => rw [er] at h; exact h
    | rt d => rw [er] at h; exact h
    | bk d => rw [er] at h; exact h
    | ct d => rw [er] at h; exact h
    | xc d => rw [er] at h; exact h
  clear h
  unfold letIf at go
  split at go
  · rename_i hr
    refine qe (vw M ρ) σ H (hz Z ρ o M) _ k.hin k.view (run_eg (R := RE S) k go fun d v H1 _ g1 k1 r1 go1 => ?_)
    have kd := k1.drop r (some v)
    have hv : Vok S.c (hid H1 (hz Z (ρ.set r .un) o M)) ((vw M ρ).set r (some d)) (σ.set r (some v)) := ((k1.view (M := M)).put r1).gr ((Gr.refl H1).hid2 hz_un)
    refine qc _ (σ.set r (some v)) H1 (hz Z (ρ.set r .un) o M) _ kd.hin hv (run_eg (R := RT) kd go1 fun b b' H2 _ g2 k2 r2 go2 => ?_)
    cases (show b' = b from r2)
    cases b with
    | true => exact qb _ F H0 Z _ H2 _ ⟨o, k2⟩ go2
    | false => exact q0 _ F H0 Z _ H2 _ ⟨o, k2⟩ go2
  · exact False.elim go
/-! ### for x in y: x[0].clear() -/
/-- one member of a row of trees, its places fewer -/
theorem TreeA.member2 {c : Cz} {Hv H : Hp} {n : Nat} {vs : List V} : ∀ {ds : List D} {U : List Addr} {i : Nat} {d : D}, TreeA c Hv H n vs ds U → ds[i]? = some d →
    ∃ v U', vs[i]? = some v ∧ Tree c Hv H n v d U' ∧ (∀ a ∈ U', a ∈ U) ∧ ∀ Hv2 H2 d2 W, Gr Hv Hv2 → (∀ a ∈ W, a ∈ U') → (∀ a ∈ U, a ∉ U' → H2 a = H a) → Tree c Hv2 H2 n v d2 W → ∃ U2, (∀ a ∈ U2, a ∈ U) ∧ TreeA c Hv2 H2 n vs (ds.set i d2) U2 := by
  induction vs with
  | nil => intro ds U i d h e; cases h; simp at e
  | cons w vs ih =>
    intro ds U i d h e
    cases h with
    | @cons _ _ _ d0 ds U1 W h1 h2 h3 =>
      cases i with
      | zero =>
        simp only [List.getElem?_cons_zero, Option.some.injEq] at e
        subst e
        refine ⟨w, U1, rfl, h1, fun a ha => List.mem_append_left _ ha, fun Hv2 H2 d2 W2 e2 s k t => ⟨W2 ++ W, fun a ha => ?_, .cons t (TreeA.gr e2 (fun a ha => k a (List.mem_append_right _ ha) fun q => h3 a q ha) h2) fun a ha => h3 a (s a ha)⟩⟩
        exact (List.mem_append.mp ha).elim (fun z => List.mem_append_left _ (s a z)) (List.mem_append_right _)
      | succ i =>
        rw [List.getElem?_cons_succ] at e
        obtain ⟨v, U', q1, q2, q3, q4⟩ := ih h2 e
        refine ⟨v, U', by rw [List.getElem?_cons_succ]; exact q1, q2, fun a ha => List.mem_append_right _ (q3 a ha), fun Hv2 H2 d2 W2 e2 s k t => ?_⟩
        obtain ⟨U2, c1, c2⟩ := q4 Hv2 H2 d2 W2 e2 s (fun a ha hn => k a (List.mem_append_right _ ha) hn) t
        refine ⟨U1 ++ U2, fun a ha => (List.mem_append.mp ha).elim (List.mem_append_left _) fun z => List.mem_append_right _ (c1 a z), .cons (h1.gr e2 fun a ha => k a (List.mem_append_left _ ha) fun q => h3 a ha (q3 a q)) c2 fun a ha z => h3 a ha (c1 a z)⟩
def clr1 : D → Option D
  | .tuple (.list _ :: r) => some (.tuple (.list [] :: r))
  | _ => none
def clrAll : List D → Option (List D)
  | [] => some []
  | d :: ds => match clr1 d, clrAll ds with | some a, some b => some (a :: b) | _, _ => none
theorem clrAll_at : ∀ {ds es : List D} {i : Nat} {d : D}, clrAll ds = some es → ds[i]? = some d → ∃ l r, d = .tuple (.list l :: r) ∧ es[i]? = some (.tuple (.list [] :: r))
  | [], es, i, d, h, e => by simp at e
  | x :: ds, es, i, d, h, e => by
    unfold clrAll at h
    cases e1 : clr1 x with
    | none => rw [e1] at h; cases h
    | some a =>
      cases e2 : clrAll ds with
      | none => rw [e1, e2] at h; cases h
      | some b =>
        rw [e1, e2] at h
        cases h
        cases i with
        | zero =>
          cases e
          unfold clr1 at e1
          split at e1
          · cases e1; exact ⟨_, _, rfl, rfl⟩
          · cases e1
        | succ i => exact clrAll_at e2 (i := i) (by simpa using e)
theorem clrAll_len : ∀ {ds es : List D}, clrAll ds = some es → es.length = ds.length
  | [], es, h => by cases h; rfl
  | x :: ds, es, h => by
    unfold clrAll at h
    cases e1 : clr1 x with
    | none => rw [e1] at h; cases h
    | some a =>
      cases e2 : clrAll ds with
      | none => rw [e1, e2] at h; cases h
      | some b =>
        rw [e1, e2] at h
        cases h
        simp [clrAll_len e2]
def clrEach (r j : Nat) (ρ : Env') : Res := match ρ[j]? with
  | some (.ow (m + 2) (.list ds)) => if r ≠ j ∧ r < ρ.length then (match clrAll ds with | some es => .nx ((ρ.set r .un).set j (.ow (m + 2) (.list es))) | none => .un) else .un
  | _ => .un
theorem set_id {A : Type} {xs : List A} {i : Nat} {x : A} (h : xs[i]? = some x) : xs.set i x = xs := by
  obtain ⟨h1, h2⟩ := List.getElem?_eq_some_iff.mp h
  rw [← h2]
  exact List.set_getElem_self h1
theorem ss_clrEach {r j : Nat} {x y : Str} {p1 p2 p3 p4 p5 p6 p7 p8 p9 : Pos} {z} (hN : S.N[j]? = some y := by rfl) (hNr : S.N[r]? = some x := by rfl) (hv : Vis S.sc y := by first | exact Or.inl rfl | exact Or.inr (Or.inl rfl) | exact Or.inr (Or.inr rfl)) (hvr : Vis S.sc x := by first | exact Or.inl rfl | exact Or.inr (Or.inl rfl) | exact Or.inr (Or.inr rfl))
    (hx : L2.Loc S.sc x := by first | exact Or.inl rfl | exact Or.inr rfl) (hst : S.st x = true := by rfl) (hd : (y == ("__debug__" : Str)) = false := by decide) (hcd : (y == ("__classdict__" : Str)) = false := by decide) (hdr : (x == ("__debug__" : Str)) = false := by decide) (hcdr : (x == ("__classdict__" : Str)) = false := by decide)
    (hdf : S.df = true := by rfl) (hs : ∀ env x, foldedSetIterable (.Name y p2) env x = pure x := by intro _ _; rfl)
    (hbase : ∀ env, attributeBase (.Subscript (.Name x p3) (.Constant (.int 0) z p4) p5) "clear" env (eval (.Subscript (.Name x p3) (.Constant (.int 0) z p4) p5) env) = eval (.Subscript (.Name x p3) (.Constant (.int 0) z p4) p5) env := by intro _; rfl) (hline : (p6.endLine == p7.line) = true := by rfl)
    (hsw : ∀ env, swapsWith (.Call (.Attribute (.Subscript (.Name x p3) (.Constant (.int 0) z p4) p5) "clear" p6) [] [] p7) none p8.line env = pure false := by intro _; rfl) :
    SemS S (.For (.Name x p1) (.Name y p2) [.Expr (.Call (.Attribute (.Subscript (.Name x p3) (.Constant (.int 0) z p4) p5) "clear" p6) [] [] p7) p8] [] p9) (clrEach r j) := by
  refine ⟨⟨tFor (iList S.K (tVar j)) (gName r) (tDrop (tBM0 S.K "list" rClear (tOp (rIx S.K) (tVar r) (tC (.int 0))))), fun X hX => ?_, fun ρ F H0 Z σ H Dn ⟨o, k⟩ h => ?_⟩⟩
  · rw [← hX.hK]
    refine ps_for (hX.pass hdf) hX.calm (pi_list (pe_var (by rw [hX.hN]; exact hN) (by rw [hX.hsc]; exact hv) hd hcd)) (pg_name hX.nd (by rw [hX.hN]; exact hNr) (by rw [hX.hsc]; exact hx) (hX.fnl x hx hst)) (pss_one ?_) (hs _)
    exact ps_expr (pe_bm0 PySem.F.plainAttrs_list PySem.F.slot_list_clear PySem.F.type_list_clear mt_clear (pe_ix ix_seq (pe_var (by rw [hX.hN]; exact hNr) (by rw [hX.hsc]; exact hvr) hdr hcdr) pe_int (by intro _ _; rfl)) (hbase _) hline) (hsw _)
  · unfold clrEach at h
    split at h
    · rename_i m ds hj
      split at h
      · rename_i hc
        obtain ⟨c1, c2⟩ := hc
        cases ec : clrAll ds with
        | none => rw [ec] at h; exact False.elim h
        | some es =>
          rw [ec] at h
          obtain ⟨⟨v0, s1, tr⟩, s2⟩ := k.ow j _ _ hj
          obtain ⟨a, vs, W, rfl, hU, w4, w5, w6⟩ := tr.isL
          have hel := clrAll_len ec
          have hvl := TreeA.length w5
          have hσr : r < σ.length := by rw [k.len]; exact c2
          refine ⟨.ref a, s1, a, rfl, ⟨vs, .inl (.inl w4)⟩, ?_⟩
          refine for_list (xs := vs) (fun i σ' H' => ∃ o', OkAt S.c F H0 Z ((ρ.set r .un).set j (.ow (m + 2) (.list (es.take i ++ ds.drop i)))) o' σ' H' ∧ σ'[j]? = some (some (.ref a)) ∧ H' a = some (.lst vs)) ?_ ?_ ?_ ?_
          · refine ⟨o, ?_, s1, w4⟩
            have e0 : (ρ.set r .un).set j (.ow (m + 2) (.list (es.take 0 ++ ds.drop 0))) = ρ.set r .un := set_id (by rw [List.getElem?_set_ne c1]; simpa using hj)
            rw [e0]
            have := k.drop r σ[r]
            rwa [List.set_getElem_self hσr] at this
          · rintro i σ' H' _ ⟨o', _, _, q⟩
            exact .inl (.inl q)
          · rintro i xv σ' H' hx ⟨o', k', sj, ha⟩
            have hi : i < vs.length := (List.getElem?_eq_some_iff.mp hx).1
            obtain ⟨d, hd⟩ : ∃ d, ds[i]? = some d := ⟨ds[i]'(by omega), List.getElem?_eq_getElem _⟩
            obtain ⟨l, rr, rfl, he⟩ := clrAll_at ec hd
            have hjl : j < (ρ.set r .un).length := by rw [List.length_set]; exact (List.getElem?_eq_some_iff.mp hj).1
            have hj' : ((ρ.set r .un).set j (.ow (m + 2) (.list (es.take i ++ ds.drop i))))[j]? = some (.ow (m + 2) (.list (es.take i ++ ds.drop i))) := List.getElem?_set_self hjl
            have htl : (es.take i).length = i := by rw [List.length_take]; omega
            have hdi : (es.take i ++ ds.drop i)[i]? = some (.tuple (.list l :: rr)) := by
              rw [List.getElem?_append_right (by omega), htl, Nat.sub_self, List.getElem?_drop]
              exact hd
            have hset : (es.take i ++ ds.drop i).set i (.tuple (.list [] :: rr)) = es.take (i + 1) ++ ds.drop (i + 1) := by
              rw [List.set_append_right _ _ (by omega), htl, Nat.sub_self, drop_cons hd, List.set_cons_zero, List.take_add_one, he]
              simp
            have kd := k'.drop r (some xv)
            have e1 : ((ρ.set r .un).set j (.ow (m + 2) (.list (es.take i ++ ds.drop i)))).set r .un = (ρ.set r .un).set j (.ow (m + 2) (.list (es.take i ++ ds.drop i))) := set_id (by rw [List.getElem?_set_ne (Ne.symm c1), List.getElem?_set_self c2])
            rw [e1] at kd
            have sj2 : (σ'.set r (some xv))[j]? = some (some (.ref a)) := by rw [List.getElem?_set_ne c1]; exact sj
            obtain ⟨⟨v1, t1, tr1⟩, t2⟩ := kd.ow j _ _ hj'
            rw [sj2] at t1
            cases t1
            obtain ⟨a', vs', W', ea, hU', x4, x5, x6⟩ := tr1.isL
            cases ea
            rw [ha] at x4
            cases x4
            obtain ⟨w, U', m1, m2, m3, m4⟩ := TreeA.member2 x5 hdi
            rw [hx] at m1
            cases m1
            have hσ' : r < σ'.length := by
              have := k'.len
              simp only [List.length_set] at this
              omega
            show tDrop _ _ (σ'.set r (some xv)) H'
            cases m2 with
            | leaf q _ => simp [imm, immA] at q
            | @tup _ p ys _ _ h1 h2 =>
              cases h2 with
              | @cons _ yv ys _ _ U1 W1 g1 g2 g3 =>
                cases g1 with
                | leaf q _ => simp [imm] at q
                | @lst _ b zs _ U0 f1 f2 f3 =>
                  have bU : b ∈ o' j := by rw [hU']; exact List.mem_cons_of_mem _ (m3 b (List.mem_append_left _ List.mem_cons_self))
                  have ab : a ≠ b := fun z => x6 (z ▸ m3 b (List.mem_append_left _ List.mem_cons_self))
                  refine ⟨.ref p, by rw [List.getElem?_set_self hσ'], .inr (.inl ⟨p, _, 0, .ref b, rfl, rfl, (Gr.hid_le _ _).sqT h1, by simp [L2.atI, ixN], .inl ⟨rfl, zs, .inl (.inl f1)⟩, b, zs, rfl, rfl, f1, ?_⟩)⟩
                  have nb : ∀ x ∈ W1, x ≠ b := fun x hx z => g3 b List.mem_cons_self (z ▸ hx)
                  have tnew : Tree S.c (hid H' (hz Z ((ρ.set r .un).set j (.ow (m + 2) (.list (es.take i ++ ds.drop i)))) o' [])) (upd H' b (.lst [])) (m + 1) (.ref p) (.tuple (.list [] :: rr)) ([b] ++ W1) :=
                    .tup h1 (.cons (.lst (U := []) upd_same .nil (by simp)) (TreeA.gr (Gr.refl _) (fun x hx => upd_ne (nb x hx)) g2) fun x hx z => nb x z (List.mem_singleton.mp hx))
                  obtain ⟨U2, n1, n2⟩ := m4 _ (upd H' b (.lst [])) _ ([b] ++ W1) (Gr.refl _) (fun x hx => (List.mem_append.mp hx).elim (fun z => by rw [List.mem_singleton.mp z]; exact List.mem_append_left _ List.mem_cons_self) (List.mem_append_right _)) (fun x _ hn => upd_ne fun z => hn (z ▸ List.mem_append_left _ List.mem_cons_self)) tnew
                  have kk := kd.change2 (H' := upd H' b (.lst [])) (n := m + 2) (d := .list ((es.take i ++ ds.drop i).set i (.tuple (.list [] :: rr)))) (v := .ref a) (W := a :: U2) hj' sj2 (fun x hx => .inl (by
                    rw [hU']
                    rcases List.mem_cons.mp hx with rfl | hx
                    · exact List.mem_cons_self
                    · exact List.mem_cons_of_mem _ (n1 x hx))) (fun x hx _ => upd_ne fun z => hx (z ▸ bU)) fun Hv eh => .lst (by rw [upd_ne ab]; exact ha) (TreeA.gr eh (fun _ _ => rfl) n2) fun z => x6 (n1 a z)
                  rw [List.set_set, hset] at kk
                  exact ⟨_, kk, sj2, by rw [upd_ne ab]; exact ha⟩
          · rintro σ' H' ⟨o', k', _, _⟩
            have : es.take vs.length ++ ds.drop vs.length = es := by
              rw [hvl, List.drop_length, List.append_nil, ← hel, List.take_length]
            rw [this] at k'
            exact h σ' H' ⟨o', k'⟩
      · exact False.elim h
    · exact False.elim h
end
end Bv

namespace K51
open PySem PySem.Spec L2 PyProof.Rows Bv
def top (i : Nat) : Stmt := PySem.Challenge.pw_farend_k51_all_endings.main.body.getD i (.Pass ⟨0, 0, 0, 0⟩)

/-! first_state -/
abbrev s_first_state : Stmt := top 4
def m_first_state : Env' → Res :=
  (sseq (untup [1, 2] [] (var 0))
    (sseq (asg 3 [] (bi2 dMul (tupD (acons (tupD (acons (cst (.int 0)) (acons (cst (.int 0)) (acons (cst (.int 0)) (acons (cst .none) (acons (tupD anil) anil)))))) anil)) (bi2 dAdd (cst (.int 1)) (cal dLen (acons (var 2) anil)))))
    (ret [] (tupD (acons (cst (.int 0)) (acons (cst (.int 0)) (acons (bi2 dMul (tupD (acons (cst .none) anil)) (cal dLen (acons (var 1) anil))) (acons (var 3) anil))))))))
def f_first_state (ds : List D) : Rv D := (m_first_state (entry 3 ds)).fin
theorem c_first_state : FnScope ["play", "deeds", "tries", "movers"] ["play"] (defScope s_first_state) := ⟨rfl, rfl, rfl, by decide +kernel, rfl, by decide +kernel, by decide +kernel⟩
theorem d_first_state {T : Wd} (m_len : T.mg "len" = none) (E : XK) : SemSs ⟨T, 0, ["play", "deeds", "tries", "movers"], defScope s_first_state, wAll E, true, fun _ => true, 0⟩ (defBody s_first_state) m_first_state :=
  (sss_cons (ss_untup [] (sg_cons 1 (sg_cons 2 sg_nil)) (se_var 0))
    (sss_cons (ss_set (i := 3) [] (se_mul (se_tup (sa_cons (se_tup (sa_cons se_int (sa_cons se_int (sa_cons se_int (sa_cons se_non (sa_cons (se_tup sa_nil) sa_nil)))))) sa_nil)) (se_add se_int (se_callB (fun X hX => hX.hK ▸ call_lenA) on_len m_len PySem.boot_len (sa_cons (se_var 2) sa_nil)))))
    (sss_one (ss_ret [] (se_tup (sa_cons se_int (sa_cons se_int (sa_cons (se_mul (se_tup (sa_cons se_non sa_nil)) (se_callB (fun X hX => hX.hK ▸ call_lenA) on_len m_len PySem.boot_len (sa_cons (se_var 1) sa_nil))) (sa_cons (se_var 3) sa_nil)))))))))
theorem k_first_state {T : Wd} (m_len : T.mg "len" = none) {f : Addr} {fd : FuncData} (F : Fun T.K "first_state" "first_state" s_first_state f fd) (g : T.mg "first_state" = some (.ref f)) : Lk T 1 "first_state" 1 f_first_state :=
  ⟨f, fd, ["play"], (fnG_of (tr := 0) F c_first_state rfl rfl (d_first_state m_len)).weak rfl, g, F.kp, F.binds fun _ _ _ _ _ _ us hl => match us, hl with | [_], _ => rfl⟩

/-! ended -/
abbrev s_ended : Stmt := top 5
def m_ended : Env' → Res :=
  (ret [] (tupD (acons (bi2 dAdd (bi2 dIx (var 0) (cst (.int 0))) (cst (.int 1))) (acons (cst (.int 0)) (acons (cst (.int 0)) (acons (cst .none) (acons (bi2 dAdd (bi2 dIx (var 0) (cst (.int 4))) (tupD (acons (var 1) anil))) anil)))))))
def f_ended (ds : List D) : Rv D := (m_ended (entry 0 ds)).fin
theorem c_ended : FnScope ["mover", "what"] ["mover", "what"] (defScope s_ended) := ⟨rfl, rfl, rfl, by decide +kernel, rfl, by decide +kernel, by decide +kernel⟩
theorem d_ended {T : Wd} (E : XK) : SemSs ⟨T, 0, ["mover", "what"], defScope s_ended, wAll E, true, fun _ => true, 0⟩ (defBody s_ended) m_ended :=
  (sss_one (ss_ret [] (se_tup (sa_cons (se_add (se_ix (se_var 0) se_int) se_int) (sa_cons se_int (sa_cons se_int (sa_cons se_non (sa_cons (se_add (se_ix (se_var 0) se_int) (se_tup (sa_cons (se_var 1) sa_nil))) sa_nil))))))))
theorem k_ended {T : Wd} {f : Addr} {fd : FuncData} (F : Fun T.K "ended" "ended" s_ended f fd) (g : T.mg "ended" = some (.ref f)) : Lk T 1 "ended" 2 f_ended :=
  ⟨f, fd, ["mover", "what"], (fnG_of (tr := 0) F c_ended rfl rfl (d_ended)).weak rfl, g, F.kp, F.binds fun _ _ _ _ _ _ us hl => match us, hl with | [_, _], _ => rfl⟩

/-! lay -/
abbrev s_lay : Stmt := top 6
def m_lay : Env' → Res :=
  (sseq (untup [3, 4, 5, 6] [] (var 0))
    (sseq (sif [] (asB (bi2 dEq (bi2 dIx (var 1) (cst (.int 1))) (cst (.int 0))))
      (ret [] (tupD (acons (tupD (acons (var 3) (acons (var 4) (acons (bi2 dAdd (bi2 dAdd (slc (var 5) onone (osome (var 3))) (tupD (acons (var 2) anil))) (slc (var 5) (osome (bi2 dAdd (var 3) (cst (.int 1)))) onone)) (acons (var 6) anil))))) (acons (tupD (acons (bi2 dIx (var 1) (cst (.int 0))) (acons (cst (.int 1)) (acons (cst (.int 0)) (acons (cst .none) (acons (bi2 dIx (var 1) (cst (.int 4))) anil)))))) anil))))
      snext)
    (ret [] (tupD (acons (tupD (acons (bi2 dAdd (var 3) (cst (.int 1))) (acons (var 4) (acons (var 5) (acons (var 6) anil))))) (acons (tupD (acons (bi2 dAdd (bi2 dIx (var 1) (cst (.int 0))) (cst (.int 1))) (acons (cst (.int 0)) (acons (cst (.int 0)) (acons (cst .none) (acons (bi2 dIx (var 1) (cst (.int 4))) anil)))))) anil))))))
def f_lay (ds : List D) : Rv D := (m_lay (entry 4 ds)).fin
theorem c_lay : FnScope ["state", "mover", "thing", "near", "far", "boxes", "movers"] ["state", "mover", "thing"] (defScope s_lay) := ⟨rfl, rfl, rfl, by decide +kernel, rfl, by decide +kernel, by decide +kernel⟩
theorem d_lay {T : Wd} (E : XK) : SemSs ⟨T, 0, ["state", "mover", "thing", "near", "far", "boxes", "movers"], defScope s_lay, wAll E, true, fun _ => true, 0⟩ (defBody s_lay) m_lay :=
  (sss_cons (ss_untup [] (sg_cons 3 (sg_cons 4 (sg_cons 5 (sg_cons 6 sg_nil)))) (se_var 0))
    (sss_cons (ss_if [] (st_eq (se_ix (se_var 1) se_int) se_int)
      (sss_one (ss_ret [] (se_tup (sa_cons (se_tup (sa_cons (se_var 3) (sa_cons (se_var 4) (sa_cons (se_add (se_add (se_slice (se_var 5) so_none (so_some (se_var 3))) (se_tup (sa_cons (se_var 2) sa_nil))) (se_slice (se_var 5) (so_some (se_add (se_var 3) se_int)) so_none)) (sa_cons (se_var 6) sa_nil))))) (sa_cons (se_tup (sa_cons (se_ix (se_var 1) se_int) (sa_cons se_int (sa_cons se_int (sa_cons se_non (sa_cons (se_ix (se_var 1) se_int) sa_nil)))))) sa_nil)))))
      sss_nil)
    (sss_one (ss_ret [] (se_tup (sa_cons (se_tup (sa_cons (se_add (se_var 3) se_int) (sa_cons (se_var 4) (sa_cons (se_var 5) (sa_cons (se_var 6) sa_nil))))) (sa_cons (se_tup (sa_cons (se_add (se_ix (se_var 1) se_int) se_int) (sa_cons se_int (sa_cons se_int (sa_cons se_non (sa_cons (se_ix (se_var 1) se_int) sa_nil)))))) sa_nil)))))))
theorem k_lay {T : Wd} {f : Addr} {fd : FuncData} (F : Fun T.K "lay" "lay" s_lay f fd) (g : T.mg "lay" = some (.ref f)) : Lk T 1 "lay" 3 f_lay :=
  ⟨f, fd, ["state", "mover", "thing"], (fnG_of (tr := 0) F c_lay rfl rfl (d_lay)).weak rfl, g, F.kp, F.binds fun _ _ _ _ _ _ us hl => match us, hl with | [_, _, _], _ => rfl⟩

/-! take -/
abbrev s_take : Stmt := top 7
def m_take : Env' → Res :=
  (sseq (untup [3, 4, 5, 6] [] (var 1))
    (sseq (untup [7, 8, 9, 10, 11] [] (var 2))
    (sseq (sif [] (asB (bi2 dEq (var 8) (cst (.int 0))))
      (ret [] (tupD (acons (tupD (acons (bi2 dSub (var 3) (cst (.int 1))) (acons (var 4) (acons (var 5) (acons (var 6) anil))))) (acons (tupD (acons (var 7) (acons (cst (.int 1)) (acons (cst (.int 0)) (acons (cst .none) (acons (var 11) anil)))))) anil))))
      snext)
    (sseq (sif [] (asB (bi2 dEq (var 8) (cst (.int 1))))
      (ret [] (tupD (acons (var 1) (acons (tupD (acons (var 7) (acons (cst (.int 2)) (acons (var 4) (acons (cst .none) (acons (var 11) anil)))))) anil))))
      snext)
    (sseq (sif [] (tand (asB (bi2 dEq (var 8) (cst (.int 2)))) (asB (bi2 dLt (var 3) (var 9))))
      (ret [] (tupD (acons (tupD (acons (var 9) (acons (var 4) (acons (var 5) (acons (var 6) anil))))) (acons (cal f_ended (acons (var 2) (acons (cst .none) anil))) anil))))
      snext)
    (sseq (sif [] (tand (asB (bi2 dEq (var 8) (cst (.int 2)))) (asB (bi2 dGt (var 3) (var 9))))
      (ret [] (tupD (acons (var 1) (acons (cal f_ended (acons (var 2) (acons (bi2 dIx (var 5) (var 3)) anil))) anil))))
      snext)
    (sseq (sif [] (asB (bi2 dEq (var 8) (cst (.int 2))))
      (ret [] (tupD (acons (var 1) (acons (tupD (acons (var 7) (acons (ifx (asB (bi2 dEq (var 0) (cst (.str "bare")))) (cst (.int 4)) (cst (.int 3))) (acons (var 9) (acons (bi2 dIx (var 5) (var 3)) (acons (var 11) anil)))))) anil))))
      snext)
    (sseq (sif [] (tand (asB (bi2 dEq (var 8) (cst (.int 3)))) (asB (bi2 dEq (var 4) (var 9))))
      (ret [] (tupD (acons (tupD (acons (var 3) (acons (bi2 dAdd (var 4) (cst (.int 1))) (acons (var 5) (acons (var 6) anil))))) (acons (tupD (acons (var 7) (acons (cst (.int 4)) (acons (var 9) (acons (var 10) (acons (var 11) anil)))))) anil))))
      snext)
    (sseq (sif [] (asB (bi2 dEq (var 8) (cst (.int 3))))
      (ret [] (tupD (acons (var 1) (acons (tupD (acons (var 7) (acons (cst (.int 4)) (acons (var 9) (acons (cst .none) (acons (var 11) anil)))))) anil))))
      snext)
    (ret [] (tupD (acons (tupD (acons (bi2 dAdd (var 9) (cst (.int 1))) (acons (var 4) (acons (var 5) (acons (var 6) anil))))) (acons (cal f_ended (acons (var 2) (acons (var 10) anil))) anil)))))))))))))
def f_take (ds : List D) : Rv D := (m_take (entry 9 ds)).fin
theorem c_take : FnScope ["rules", "state", "mover", "near", "far", "boxes", "movers", "number", "phase", "f", "x", "told"] ["rules", "state", "mover"] (defScope s_take) := ⟨rfl, rfl, rfl, by decide +kernel, rfl, by decide +kernel, by decide +kernel⟩
theorem d_take {T : Wd} (l_ended : Lk T 1 "ended" 2 f_ended) (E : XK) : SemSs ⟨T, 1, ["rules", "state", "mover", "near", "far", "boxes", "movers", "number", "phase", "f", "x", "told"], defScope s_take, wAll E, true, fun _ => true, 0⟩ (defBody s_take) m_take :=
  (sss_cons (ss_untup [] (sg_cons 3 (sg_cons 4 (sg_cons 5 (sg_cons 6 sg_nil)))) (se_var 1))
    (sss_cons (ss_untup [] (sg_cons 7 (sg_cons 8 (sg_cons 9 (sg_cons 10 (sg_cons 11 sg_nil))))) (se_var 2))
    (sss_cons (ss_if [] (st_eq (se_var 8) se_int)
      (sss_one (ss_ret [] (se_tup (sa_cons (se_tup (sa_cons (se_sub (se_var 3) se_int) (sa_cons (se_var 4) (sa_cons (se_var 5) (sa_cons (se_var 6) sa_nil))))) (sa_cons (se_tup (sa_cons (se_var 7) (sa_cons se_int (sa_cons se_int (sa_cons se_non (sa_cons (se_var 11) sa_nil)))))) sa_nil)))))
      sss_nil)
    (sss_cons (ss_if [] (st_eq (se_var 8) se_int)
      (sss_one (ss_ret [] (se_tup (sa_cons (se_var 1) (sa_cons (se_tup (sa_cons (se_var 7) (sa_cons se_int (sa_cons (se_var 4) (sa_cons se_non (sa_cons (se_var 11) sa_nil)))))) sa_nil)))))
      sss_nil)
    (sss_cons (ss_if [] (st_w (sw_and (st_eq (se_var 8) se_int) (sw_and1 (st_lt (se_var 3) (se_var 9)))))
      (sss_one (ss_ret [] (se_tup (sa_cons (se_tup (sa_cons (se_var 9) (sa_cons (se_var 4) (sa_cons (se_var 5) (sa_cons (se_var 6) sa_nil))))) (sa_cons (se_call l_ended (sa_cons (se_var 2) (sa_cons se_non sa_nil)) (acons_len (acons_len anil_len))) sa_nil)))))
      sss_nil)
    (sss_cons (ss_if [] (st_w (sw_and (st_eq (se_var 8) se_int) (sw_and1 (st_gt (se_var 3) (se_var 9)))))
      (sss_one (ss_ret [] (se_tup (sa_cons (se_var 1) (sa_cons (se_call l_ended (sa_cons (se_var 2) (sa_cons (se_ix (se_var 5) (se_var 3)) sa_nil)) (acons_len (acons_len anil_len))) sa_nil)))))
      sss_nil)
    (sss_cons (ss_if [] (st_eq (se_var 8) se_int)
      (sss_one (ss_ret [] (se_tup (sa_cons (se_var 1) (sa_cons (se_tup (sa_cons (se_var 7) (sa_cons (se_if (st_eq (se_var 0) se_str) se_int se_int) (sa_cons (se_var 9) (sa_cons (se_ix (se_var 5) (se_var 3)) (sa_cons (se_var 11) sa_nil)))))) sa_nil)))))
      sss_nil)
    (sss_cons (ss_if [] (st_w (sw_and (st_eq (se_var 8) se_int) (sw_and1 (st_eq (se_var 4) (se_var 9)))))
      (sss_one (ss_ret [] (se_tup (sa_cons (se_tup (sa_cons (se_var 3) (sa_cons (se_add (se_var 4) se_int) (sa_cons (se_var 5) (sa_cons (se_var 6) sa_nil))))) (sa_cons (se_tup (sa_cons (se_var 7) (sa_cons se_int (sa_cons (se_var 9) (sa_cons (se_var 10) (sa_cons (se_var 11) sa_nil)))))) sa_nil)))))
      sss_nil)
    (sss_cons (ss_if [] (st_eq (se_var 8) se_int)
      (sss_one (ss_ret [] (se_tup (sa_cons (se_var 1) (sa_cons (se_tup (sa_cons (se_var 7) (sa_cons se_int (sa_cons (se_var 9) (sa_cons se_non (sa_cons (se_var 11) sa_nil)))))) sa_nil)))))
      sss_nil)
    (sss_one (ss_ret [] (se_tup (sa_cons (se_tup (sa_cons (se_add (se_var 9) se_int) (sa_cons (se_var 4) (sa_cons (se_var 5) (sa_cons (se_var 6) sa_nil))))) (sa_cons (se_call l_ended (sa_cons (se_var 2) (sa_cons (se_var 10) sa_nil)) (acons_len (acons_len anil_len))) sa_nil))))))))))))))
theorem k_take {T : Wd} (l_ended : Lk T 1 "ended" 2 f_ended) {f : Addr} {fd : FuncData} (F : Fun T.K "take" "take" s_take f fd) (g : T.mg "take" = some (.ref f)) : Lk T 2 "take" 3 f_take :=
  ⟨f, fd, ["rules", "state", "mover"], (fnG_of (tr := 0) F c_take rfl rfl (d_take l_ended)).weak rfl, g, F.kp, F.binds fun _ _ _ _ _ _ us hl => match us, hl with | [_, _, _], _ => rfl⟩

/-! attempt -/
abbrev s_attempt : Stmt := top 8
def m_attempt : Env' → Res :=
  (sseq (untup [3, 4, 5, 6] [] (var 1))
    (sseq (untup [7, 8, 9, 10, 11] [] (var 2))
    (sseq (sif [] (asB (bi2 dEq (var 8) (cst (.int 0))))
      (ret [] (tupD (acons (var 1) (acons (tupD (acons (var 7) (acons (cst (.int 1)) (acons (var 4) (acons (cst .none) (acons (var 11) anil)))))) anil))))
      snext)
    (sseq (sif [] (tand (asB (bi2 dEq (var 8) (cst (.int 1)))) (asB (bi2 dLe (var 3) (var 9))))
      (ret [] (tupD (acons (var 1) (acons (cal f_ended (acons (var 2) (acons (cst .none) anil))) anil))))
      snext)
    (sseq (sif [] (asB (bi2 dEq (var 8) (cst (.int 1))))
      (ret [] (tupD (acons (var 1) (acons (tupD (acons (var 7) (acons (cst (.int 2)) (acons (var 9) (acons (cst .none) (acons (var 11) anil)))))) anil))))
      snext)
    (sseq (sif [] (asB (bi2 dEq (var 8) (cst (.int 2))))
      (ret [] (tupD (acons (var 1) (acons (tupD (acons (var 7) (acons (cst (.int 3)) (acons (var 9) (acons (bi2 dIx (var 5) (var 9)) (acons (var 11) anil)))))) anil))))
      snext)
    (sseq (sif [] (tor (asB (bi2 dEq (var 4) (var 9))) (asB (bi2 dEq (var 0) (cst (.str "blind")))))
      (ret [] (tupD (acons (tupD (acons (var 3) (acons (bi2 dAdd (var 9) (cst (.int 1))) (acons (var 5) (acons (var 6) anil))))) (acons (cal f_ended (acons (var 2) (acons (var 10) anil))) anil))))
      snext)
    (ret [] (tupD (acons (var 1) (acons (cal f_ended (acons (var 2) (acons (cst (.str "lost")) anil))) anil)))))))))))
def f_attempt (ds : List D) : Rv D := (m_attempt (entry 9 ds)).fin
theorem c_attempt : FnScope ["rules", "state", "mover", "near", "far", "boxes", "movers", "number", "phase", "f", "x", "told"] ["rules", "state", "mover"] (defScope s_attempt) := ⟨rfl, rfl, rfl, by decide +kernel, rfl, by decide +kernel, by decide +kernel⟩
theorem d_attempt {T : Wd} (l_ended : Lk T 1 "ended" 2 f_ended) (E : XK) : SemSs ⟨T, 1, ["rules", "state", "mover", "near", "far", "boxes", "movers", "number", "phase", "f", "x", "told"], defScope s_attempt, wAll E, true, fun _ => true, 0⟩ (defBody s_attempt) m_attempt :=
  (sss_cons (ss_untup [] (sg_cons 3 (sg_cons 4 (sg_cons 5 (sg_cons 6 sg_nil)))) (se_var 1))
    (sss_cons (ss_untup [] (sg_cons 7 (sg_cons 8 (sg_cons 9 (sg_cons 10 (sg_cons 11 sg_nil))))) (se_var 2))
    (sss_cons (ss_if [] (st_eq (se_var 8) se_int)
      (sss_one (ss_ret [] (se_tup (sa_cons (se_var 1) (sa_cons (se_tup (sa_cons (se_var 7) (sa_cons se_int (sa_cons (se_var 4) (sa_cons se_non (sa_cons (se_var 11) sa_nil)))))) sa_nil)))))
      sss_nil)
    (sss_cons (ss_if [] (st_w (sw_and (st_eq (se_var 8) se_int) (sw_and1 (st_le (se_var 3) (se_var 9)))))
      (sss_one (ss_ret [] (se_tup (sa_cons (se_var 1) (sa_cons (se_call l_ended (sa_cons (se_var 2) (sa_cons se_non sa_nil)) (acons_len (acons_len anil_len))) sa_nil)))))
      sss_nil)
    (sss_cons (ss_if [] (st_eq (se_var 8) se_int)
      (sss_one (ss_ret [] (se_tup (sa_cons (se_var 1) (sa_cons (se_tup (sa_cons (se_var 7) (sa_cons se_int (sa_cons (se_var 9) (sa_cons se_non (sa_cons (se_var 11) sa_nil)))))) sa_nil)))))
      sss_nil)
    (sss_cons (ss_if [] (st_eq (se_var 8) se_int)
      (sss_one (ss_ret [] (se_tup (sa_cons (se_var 1) (sa_cons (se_tup (sa_cons (se_var 7) (sa_cons se_int (sa_cons (se_var 9) (sa_cons (se_ix (se_var 5) (se_var 9)) (sa_cons (se_var 11) sa_nil)))))) sa_nil)))))
      sss_nil)
    (sss_cons (ss_if [] (st_w (sw_or (st_eq (se_var 4) (se_var 9)) (sw_or1 (st_eq (se_var 0) se_str))))
      (sss_one (ss_ret [] (se_tup (sa_cons (se_tup (sa_cons (se_var 3) (sa_cons (se_add (se_var 9) se_int) (sa_cons (se_var 5) (sa_cons (se_var 6) sa_nil))))) (sa_cons (se_call l_ended (sa_cons (se_var 2) (sa_cons (se_var 10) sa_nil)) (acons_len (acons_len anil_len))) sa_nil)))))
      sss_nil)
    (sss_one (ss_ret [] (se_tup (sa_cons (se_var 1) (sa_cons (se_call l_ended (sa_cons (se_var 2) (sa_cons se_str sa_nil)) (acons_len (acons_len anil_len))) sa_nil))))))))))))
theorem k_attempt {T : Wd} (l_ended : Lk T 1 "ended" 2 f_ended) {f : Addr} {fd : FuncData} (F : Fun T.K "attempt" "attempt" s_attempt f fd) (g : T.mg "attempt" = some (.ref f)) : Lk T 2 "attempt" 3 f_attempt :=
  ⟨f, fd, ["rules", "state", "mover"], (fnG_of (tr := 0) F c_attempt rfl rfl (d_attempt l_ended)).weak rfl, g, F.kp, F.binds fun _ _ _ _ _ _ us hl => match us, hl with | [_, _, _], _ => rfl⟩

/-! moved -/
abbrev s_moved : Stmt := top 9
def m_moved : Env' → Res :=
  (sseq (untup [4, 5] [] (var 0))
    (sseq (asg 6 [] (bi2 dIx (bi2 dIx (var 2) (cst (.int 3))) (var 3)))
    (sseq (sif [] (asB (bi2 dGt (var 3) (cst (.int 0))))
      (sseq (sif [] (asB (bi2 dEq (bi2 dIx (var 6) (cst (.int 0))) (bi2 dIx (var 5) (bi2 dSub (var 3) (cst (.int 1))))))
        (ret [] (cst .none))
        snext)
      (untup [7, 6] [] (cal f_attempt (acons (var 1) (acons (var 2) (acons (var 6) anil))))))
      (sif [] (asB (bi2 dEq (bi2 dIx (var 6) (cst (.int 0))) (cal dLen (acons (var 4) anil))))
        (ret [] (cst .none))
        (sif [] (asB (bi2 dEq (bi2 dIx (bi2 dIx (var 4) (bi2 dIx (var 6) (cst (.int 0)))) (cst (.int 0))) (cst (.str "lay"))))
          (untup [7, 6] [] (cal f_lay (acons (var 2) (acons (var 6) (acons (bi2 dIx (bi2 dIx (var 4) (bi2 dIx (var 6) (cst (.int 0)))) (cst (.int 1))) anil)))))
          (untup [7, 6] [] (cal f_take (acons (var 1) (acons (var 2) (acons (var 6) anil))))))))
    (sseq (asg 8 [] (bi2 dIx (var 7) (cst (.int 3))))
    (ret [] (bi2 dAdd (slc (var 7) onone (osome (cst (.int 3)))) (tupD (acons (bi2 dAdd (bi2 dAdd (slc (var 8) onone (osome (var 3))) (tupD (acons (var 6) anil))) (slc (var 8) (osome (bi2 dAdd (var 3) (cst (.int 1)))) onone)) anil))))))))
def f_moved (ds : List D) : Rv D := (m_moved (entry 5 ds)).fin
theorem c_moved : FnScope ["play", "rules", "state", "who", "deeds", "tries", "mover", "whole", "movers"] ["play", "rules", "state", "who"] (defScope s_moved) := ⟨rfl, rfl, rfl, by decide +kernel, rfl, by decide +kernel, by decide +kernel⟩
theorem d_moved {T : Wd} (l_attempt : Lk T 2 "attempt" 3 f_attempt) (l_lay : Lk T 1 "lay" 3 f_lay) (l_take : Lk T 2 "take" 3 f_take) (m_len : T.mg "len" = none) (E : XK) : SemSs ⟨T, 2, ["play", "rules", "state", "who", "deeds", "tries", "mover", "whole", "movers"], defScope s_moved, wAll E, true, fun _ => true, 0⟩ (defBody s_moved) m_moved :=
  (sss_cons (ss_untup [] (sg_cons 4 (sg_cons 5 sg_nil)) (se_var 0))
    (sss_cons (ss_set (i := 6) [] (se_ix (se_ix (se_var 2) se_int) (se_var 3)))
    (sss_cons (ss_if [] (st_gt (se_var 3) se_int)
      (sss_cons (ss_if [] (st_eq (se_ix (se_var 6) se_int) (se_ix (se_var 5) (se_sub (se_var 3) se_int)))
        (sss_one (ss_ret [] se_non))
        sss_nil)
      (sss_one (ss_untup [] (sg_cons 7 (sg_cons 6 sg_nil)) (se_call l_attempt (sa_cons (se_var 1) (sa_cons (se_var 2) (sa_cons (se_var 6) sa_nil))) (acons_len (acons_len (acons_len anil_len)))))))
      (sss_one (ss_if [] (st_eq (se_ix (se_var 6) se_int) (se_callB (fun X hX => hX.hK ▸ call_lenA) on_len m_len PySem.boot_len (sa_cons (se_var 4) sa_nil)))
        (sss_one (ss_ret [] se_non))
        (sss_one (ss_if [] (st_eq (se_ix (se_ix (se_var 4) (se_ix (se_var 6) se_int)) se_int) se_str)
          (sss_one (ss_untup [] (sg_cons 7 (sg_cons 6 sg_nil)) (se_call l_lay (sa_cons (se_var 2) (sa_cons (se_var 6) (sa_cons (se_ix (se_ix (se_var 4) (se_ix (se_var 6) se_int)) se_int) sa_nil))) (acons_len (acons_len (acons_len anil_len))))))
          (sss_one (ss_untup [] (sg_cons 7 (sg_cons 6 sg_nil)) (se_call l_take (sa_cons (se_var 1) (sa_cons (se_var 2) (sa_cons (se_var 6) sa_nil))) (acons_len (acons_len (acons_len anil_len)))))))))))
    (sss_cons (ss_set (i := 8) [] (se_ix (se_var 7) se_int))
    (sss_one (ss_ret [] (se_add (se_slice (se_var 7) so_none (so_some se_int)) (se_tup (sa_cons (se_add (se_add (se_slice (se_var 8) so_none (so_some (se_var 3))) (se_tup (sa_cons (se_var 6) sa_nil))) (se_slice (se_var 8) (so_some (se_add (se_var 3) se_int)) so_none)) sa_nil)))))))))
theorem k_moved {T : Wd} (l_attempt : Lk T 2 "attempt" 3 f_attempt) (l_lay : Lk T 1 "lay" 3 f_lay) (l_take : Lk T 2 "take" 3 f_take) (m_len : T.mg "len" = none) {f : Addr} {fd : FuncData} (F : Fun T.K "moved" "moved" s_moved f fd) (g : T.mg "moved" = some (.ref f)) : Lk T 3 "moved" 4 f_moved :=
  ⟨f, fd, ["play", "rules", "state", "who"], (fnG_of (tr := 0) F c_moved rfl rfl (d_moved l_attempt l_lay l_take m_len)).weak rfl, g, F.kp, F.binds fun _ _ _ _ _ _ us hl => match us, hl with | [_, _, _, _], _ => rfl⟩

/-! told_by -/
abbrev s_told_by : Stmt := top 10
def m_told_by : Env' → Res :=
  (sseq (untup [1, 2, 3, 4] [] (var 0))
    (ret [] (tupD (acons (lstD (cmp [5] (vName 5) yes (lstD (immL (calF dList (acons (bi2 dIx (var 5) (cst (.int 4))) anil)))) (srcE (var 4)))) (acons (lstD (immL (calF dList (acons (slc (var 3) (osome (var 2)) (osome (cal dMax (acons (var 2) (acons (var 1) anil))))) anil)))) anil)))))
def f_told_by (ds : List D) : Rv D := (m_told_by (entry 5 ds)).fin
theorem c_told_by : FnScope ["state", "near", "far", "boxes", "movers", "mover"] ["state"] (defScope s_told_by) := ⟨rfl, rfl, rfl, by decide +kernel, rfl, by decide +kernel, by decide +kernel⟩
theorem d_told_by {T : Wd} (m_list : T.mg "list" = none) (m_max : T.mg "max" = none) (E : XK) : SemSs ⟨T, 0, ["state", "near", "far", "boxes", "movers", "mover"], defScope s_told_by, wAll E, true, fun _ => true, 2⟩ (defBody s_told_by) m_told_by :=
  (sss_cons (ss_untup [] (sg_cons 1 (sg_cons 2 (sg_cons 3 (sg_cons 4 sg_nil)))) (se_var 0))
    (sss_one (ss_retX (n := 2) [] (sx_tup (sxa_cons (SemC.x (sc_list [("mover", 5)] [5] (se_var 4) (by show blkC ["state", "near", "far", "boxes", "movers", "mover"] (defScope s_told_by) _ _ = true; decide +kernel) (tv_name 5) sp_nil (sx_Fi (sf_callTy (fun X hX => hX.hK ▸ call_list_of) on_list m_list (by decide +kernel) (sa_cons (se_ix (se_var 5) se_int) sa_nil))))) (sxa_cons (sx_Fi (sf_callTy (fun X hX => hX.hK ▸ call_list_of) on_list m_list (by decide +kernel) (sa_cons (se_slice (se_var 3) (so_some (se_var 2)) (so_some (se_max m_max (sa_cons (se_var 2) (sa_cons (se_var 1) sa_nil))))) sa_nil))) sxa_nil))))))
theorem k_told_by {T : Wd} (m_list : T.mg "list" = none) (m_max : T.mg "max" = none) {f : Addr} {fd : FuncData} (F : Fun T.K "told_by" "told_by" s_told_by f fd) (g : T.mg "told_by" = some (.ref f)) : LkT T 1 "told_by" 1 2 f_told_by :=
  ⟨f, fd, ["state"], (fnG_of (tr := 2) F c_told_by rfl rfl (d_told_by m_list m_max)), g, F.kp, F.binds fun _ _ _ _ _ _ us hl => match us, hl with | [_], _ => rfl, rfl⟩

/-! need_size -/
abbrev s_need_size : Stmt := top 14
def m_need_size : Env' → Res :=
  (sif [] (tor (asB (bi2 dGt (cal dLen (acons (bi2 dIx (var 0) (cst (.int 0))) anil)) (cst (.int 4)))) (asB (bi2 dGt (cal dSum (acons (bi2 dIx (var 0) (cst (.int 1))) anil)) (cst (.int 3)))))
      (fun _ => .un)
      snext)
def f_need_size (ds : List D) : Rv D := (m_need_size (entry 0 ds)).fin
theorem c_need_size : FnScope ["play"] ["play"] (defScope s_need_size) := ⟨rfl, rfl, rfl, by decide +kernel, rfl, by decide +kernel, by decide +kernel⟩
theorem d_need_size {T : Wd} (m_sum : T.mg "sum" = none) (m_len : T.mg "len" = none) (gi_MOST_DEEDS : GInt T "MOST_DEEDS" 4) (gi_MOST_TRIES : GInt T "MOST_TRIES" 3) (E : XK) : SemSs ⟨T, 0, ["play"], defScope s_need_size, wAll E, true, fun _ => true, 0⟩ (defBody s_need_size) m_need_size :=
  (sss_one (ss_if [] (st_w (sw_or (st_gt (se_callB (fun X hX => hX.hK ▸ call_lenA) on_len m_len PySem.boot_len (sa_cons (se_ix (se_var 0) se_int) sa_nil)) (se_gint gi_MOST_DEEDS)) (sw_or1 (st_gt (se_callB (fun X hX => hX.hK ▸ call_sumA hX.calm) on_sum m_sum (by decide +kernel) (sa_cons (se_ix (se_var 0) se_int) sa_nil)) (se_gint gi_MOST_TRIES)))))
      (sss_one ss_un)
      sss_nil))
theorem k_need_size {T : Wd} (m_sum : T.mg "sum" = none) (m_len : T.mg "len" = none) (gi_MOST_DEEDS : GInt T "MOST_DEEDS" 4) (gi_MOST_TRIES : GInt T "MOST_TRIES" 3) {f : Addr} {fd : FuncData} (F : Fun T.K "need_size" "need_size" s_need_size f fd) (g : T.mg "need_size" = some (.ref f)) : Lk T 1 "need_size" 1 f_need_size :=
  ⟨f, fd, ["play"], (fnG_of (tr := 0) F c_need_size rfl rfl (d_need_size m_sum m_len gi_MOST_DEEDS gi_MOST_TRIES)).weak rfl, g, F.kp, F.binds fun _ _ _ _ _ _ us hl => match us, hl with | [_], _ => rfl⟩

/-! steps_from -/
abbrev s_steps_from : Stmt := top 15
def m_steps_from : Env' → Res :=
  (sseq (asgC 3 0 [] (cmp [4] (vName 4) yes (tupD (acons (var 4) (acons (cal f_moved (acons (var 0) (acons (var 1) (acons (var 2) (acons (var 4) anil))))) anil))) (srcR rng1 (acons (bi2 dAdd (cst (.int 1)) (cal dLen (acons (bi2 dIx (var 0) (cst (.int 1))) anil))) anil))))
    (ret [3] (lstD (cmp [4, 5] (vTup [4, 5]) (asB (bi2 dIsNot (var 5) (cst .none))) (tupD (acons (var 4) (acons (var 5) anil))) (srcE (var 3))))))
def f_steps_from (ds : List D) : Rv D := (m_steps_from (entry 3 ds)).fin
theorem c_steps_from : FnScope ["play", "rules", "state", "found", "who", "other"] ["play", "rules", "state"] (defScope s_steps_from) := ⟨rfl, rfl, rfl, by decide +kernel, rfl, by decide +kernel, by decide +kernel⟩
theorem d_steps_from {T : Wd} (l_moved : Lk T 3 "moved" 4 f_moved) (m_len : T.mg "len" = none) (m_range : T.mg "range" = none) (E : XK) : SemSs ⟨T, 3, ["play", "rules", "state", "found", "who", "other"], defScope s_steps_from, wAll E, true, fun _ => true, 0⟩ (defBody s_steps_from) m_steps_from :=
  (sss_cons (ss_setC (i := 3) (n := 0) [] (sc_range1 [("who", 4)] [4] m_range (sa_cons (se_add se_int (se_callB (fun X hX => hX.hK ▸ call_lenA) on_len m_len PySem.boot_len (sa_cons (se_ix (se_var 0) se_int) sa_nil))) sa_nil) (by show blkC ["play", "rules", "state", "found", "who", "other"] (defScope s_steps_from) _ _ = true; decide +kernel) (tv_name 4) sp_nil (sx_e (se_tup (sa_cons (se_var 4) (sa_cons (se_call l_moved (sa_cons (se_var 0) (sa_cons (se_var 1) (sa_cons (se_var 2) (sa_cons (se_var 4) sa_nil)))) (acons_len (acons_len (acons_len (acons_len anil_len))))) sa_nil))))))
    (sss_one (ss_ret [3] (SemF.e (SemC.f (sc_list [("who", 4), ("other", 5)] [4, 5] (se_var 3) (by show blkC ["play", "rules", "state", "found", "who", "other"] (defScope s_steps_from) _ _ = true; decide +kernel) (tv_tup (sg_cons 4 (sg_cons 5 sg_nil))) (sp_one (st_isnot (se_var 5) se_non)) (sx_e (se_tup (sa_cons (se_var 4) (sa_cons (se_var 5) sa_nil))))))))))
theorem k_steps_from {T : Wd} (l_moved : Lk T 3 "moved" 4 f_moved) (m_len : T.mg "len" = none) (m_range : T.mg "range" = none) {f : Addr} {fd : FuncData} (F : Fun T.K "steps_from" "steps_from" s_steps_from f fd) (g : T.mg "steps_from" = some (.ref f)) : Lk T 4 "steps_from" 3 f_steps_from :=
  ⟨f, fd, ["play", "rules", "state"], (fnG_of (tr := 0) F c_steps_from rfl rfl (d_steps_from l_moved m_len m_range)).weak rfl, g, F.kp, F.binds fun _ _ _ _ _ _ us hl => match us, hl with | [_, _, _], _ => rfl⟩

/-! gone_through -/
abbrev s_gone_through : Stmt := top 16
def m_gone_through : Env' → Res :=
  (sseq (asg 2 [] (cal f_first_state (acons (var 0) anil)))
    (sseq (asgD1 3 (var 2) (cst .none))
    (sseq (asgF 4 [] (lstF (acons (var 2) anil)))
    (sseq (asgF 5 [] (lstF anil))
    (sseq (fun ρ => whileL [4] (asB (bi2 dNe (var 4) (lstD (lstF anil)))) (sseq (popA 6 4)
      (sseq (asg 7 [] (cal f_steps_from (acons (var 0) (acons (var 1) (acons (var 6) anil)))))
      (sseq (sif [] (asB (bi2 dEq (var 7) (lstD (lstF anil))))
        (app 5 [] (var 6))
        snext)
      (sfor [] (bTup [8, 9]) (var 7)
        (sif [3] (asB (bi2 dNotIn (var 9) (var 3)))
          (sseq (dput 3 [] (var 9) (tupD (acons (var 6) (acons (var 8) anil))))
          (app 4 [] (var 9)))
          snext))))) ((fun _ => 1000000000) ρ) ρ)
    (ret [3, 5] (tupD (acons (var 3) (acons (var 5) anil)))))))))
def f_gone_through (ds : List D) : Rv D := (m_gone_through (entry 8 ds)).fin
theorem c_gone_through : FnScope ["play", "rules", "first", "ahead", "waiting", "last", "state", "some", "who", "other"] ["play", "rules"] (defScope s_gone_through) := ⟨rfl, rfl, rfl, by decide +kernel, rfl, by decide +kernel, by decide +kernel⟩
theorem d_gone_through {T : Wd} (l_first_state : Lk T 1 "first_state" 1 f_first_state) (l_steps_from : Lk T 4 "steps_from" 3 f_steps_from) (E : XK) : SemSs ⟨T, 4, ["play", "rules", "first", "ahead", "waiting", "last", "state", "some", "who", "other"], defScope s_gone_through, wAll E, true, fun _ => true, 0⟩ (defBody s_gone_through) m_gone_through :=
  (sss_cons (ss_set (i := 2) [] (se_call l_first_state (sa_cons (se_var 0) sa_nil) (acons_len anil_len)))
    (sss_cons (ss_dnew1 (i := 3) (se_var 2) se_non)
    (sss_cons (ss_setF (i := 4) [] (sf_lst (sa_cons (se_var 2) sa_nil)))
    (sss_cons (ss_setF (i := 5) [] (sf_lst sa_nil))
    (sss_cons (ss_while [4] (fun _ => 1000000000) (st_ne (se_var 4) (SemF.e (sf_lst sa_nil))) (sss_cons (ss_pop (i := 6) (j := 4))
      (sss_cons (ss_set (i := 7) [] (se_call l_steps_from (sa_cons (se_var 0) (sa_cons (se_var 1) (sa_cons (se_var 6) sa_nil))) (acons_len (acons_len (acons_len anil_len)))))
      (sss_cons (ss_if [] (st_eq (se_var 7) (SemF.e (sf_lst sa_nil)))
        (sss_one (ss_app (j := 5) [] (se_var 6)))
        sss_nil)
      (sss_one (ss_for [] (tg_tup (sg_cons 8 (sg_cons 9 sg_nil))) (se_var 7)
        (sss_one (ss_if [3] (st_notin (se_var 9) (se_var 3))
          (sss_cons (ss_dput (j := 3) [] (se_var 9) (se_tup (sa_cons (se_var 6) (sa_cons (se_var 8) sa_nil))))
          (sss_one (ss_app (j := 4) [] (se_var 9))))
          sss_nil))))))))
    (sss_one (ss_ret [3, 5] (se_tup (sa_cons (se_var 3) (sa_cons (se_var 5) sa_nil))))))))))
theorem k_gone_through {T : Wd} (l_first_state : Lk T 1 "first_state" 1 f_first_state) (l_steps_from : Lk T 4 "steps_from" 3 f_steps_from) {f : Addr} {fd : FuncData} (F : Fun T.K "gone_through" "gone_through" s_gone_through f fd) (g : T.mg "gone_through" = some (.ref f)) : Lk T 5 "gone_through" 2 f_gone_through :=
  ⟨f, fd, ["play", "rules"], (fnG_of (tr := 0) F c_gone_through rfl rfl (d_gone_through l_first_state l_steps_from)).weak rfl, g, F.kp, F.binds fun _ _ _ _ _ _ us hl => match us, hl with | [_, _], _ => rfl⟩

/-! endings -/
abbrev s_endings : Stmt := top 17
def m_endings : Env' → Res :=
  (sseq (drp [] (cal f_need_size (acons (var 0) anil)))
    (sseq (untup [1, 2] [] (cal f_gone_through (acons (var 0) (acons (cst (.str "good")) anil))))
    (sseq (asgDT 3 2)
    (sseq (sfor [] (bName 4) (var 2)
      (dputT 3 2 [] (cal dRepr (acons (cal f_told_by (acons (var 4) anil)) anil)) (cal f_told_by (acons (var 4) anil))))
    (retMv 3 5 2 (lstD (calF dSortedA (acons (var 3) anil))))))))
def f_endings (ds : List D) : Rv D := (m_endings (entry 5 ds)).fin
theorem c_endings : FnScope ["play", "ahead", "last", "found", "state", "text"] ["play"] (defScope s_endings) := ⟨rfl, rfl, rfl, by decide +kernel, rfl, by decide +kernel, by decide +kernel⟩
theorem d_endings {T : Wd} (l_need_size : Lk T 1 "need_size" 1 f_need_size) (l_gone_through : Lk T 5 "gone_through" 2 f_gone_through) (l_told_by : LkT T 1 "told_by" 1 2 f_told_by) (m_repr : T.mg "repr" = none) (m_sorted : T.mg "sorted" = none) (E : XK) : SemSs ⟨T, 5, ["play", "ahead", "last", "found", "state", "text"], defScope s_endings, wAll E, true, fun _ => true, 3⟩ (defBody s_endings) m_endings :=
  (sss_cons (ss_expr [] (se_call l_need_size (sa_cons (se_var 0) sa_nil) (acons_len anil_len)))
    (sss_cons (ss_untup [] (sg_cons 1 (sg_cons 2 sg_nil)) (se_call l_gone_through (sa_cons (se_var 0) (sa_cons se_str sa_nil)) (acons_len (acons_len anil_len))))
    (sss_cons (ss_dnewT (i := 3) (n := 2))
    (sss_cons (ss_for [] (tg_name 4) (se_var 2)
      (sss_one (ss_dputT (j := 3) (n := 2) [] (se_callB call_reprX on_repr m_repr (by decide +kernel) (sa_cons (se_call l_told_by.lk (sa_cons (se_var 4) sa_nil) (acons_len anil_len)) sa_nil)) (sx_call l_told_by (sa_cons (se_var 4) sa_nil) (acons_len anil_len)))))
    (sss_one (ss_retMv (j := 3) (i := 5) (n := 2) (SemF.e (sf_callB (fun X hX => hX.hK ▸ call_sortedA hX.calm) on_sortedA m_sorted (by decide +kernel) (sa_cons (se_var 3) sa_nil))) (by show blkC ["play", "ahead", "last", "found", "state", "text"] (defScope s_endings) _ _ = true; decide +kernel)))))))
theorem k_endings {T : Wd} (l_need_size : Lk T 1 "need_size" 1 f_need_size) (l_gone_through : Lk T 5 "gone_through" 2 f_gone_through) (l_told_by : LkT T 1 "told_by" 1 2 f_told_by) (m_repr : T.mg "repr" = none) (m_sorted : T.mg "sorted" = none) {f : Addr} {fd : FuncData} (F : Fun T.K "endings" "endings" s_endings f fd) (g : T.mg "endings" = some (.ref f)) : LkT T 6 "endings" 1 3 f_endings :=
  ⟨f, fd, ["play"], (fnG_of (tr := 3) F c_endings rfl rfl (d_endings l_need_size l_gone_through l_told_by m_repr m_sorted)), g, F.kp, F.binds fun _ _ _ _ _ _ us hl => match us, hl with | [_], _ => rfl, rfl⟩

/-! law_mix -/
abbrev s_law_mix : Stmt := top 19
def m_law_mix : Env' → Res :=
  (sseq (asg 2 [] (bi2 dIx (lstD (lstF (acons (cst (.int 2147483647)) (acons (cst (.int 2147483629)) (acons (cst (.int 2147483587)) (acons (cst (.int 2147483579)) (acons (cst (.int 2147483563)) (acons (cst (.int 2147483549)) (acons (cst (.int 2147483543)) anil))))))))) (bi2 dMod (var 1) (cst (.int 7)))))
    (sseq (asg 3 [] (bi2 dMod (bi2 dMul (bi2 dAdd (bi2 dMod (var 0) (cst (.int 998244353))) (bi2 dMul (cst (.int 104729)) (bi2 dAdd (var 1) (cst (.int 1))))) (bi2 dAdd (bi2 dAdd (bi2 dMul (var 1) (var 1)) (bi2 dMul (cst (.int 7)) (var 1))) (cst (.int 13)))) (var 2)))
    (sseq (asg 3 [] (bi2 dMod (bi2 dPow (var 3) (cst (.int 5))) (cst (.int 1000000007))))
    (sseq (asg 3 [] (bi2 dMod (bi2 dAdd (bi2 dAdd (bi2 dMul (var 3) (cst (.int 48271))) (bi2 dMul (cst (.int 31)) (var 1))) (cst (.int 5))) (var 2)))
    (ret [] (bi2 dDiv (bi2 dMod (bi2 dPow (var 3) (cst (.int 3))) (cst (.int 998244353))) (cst (.int 8))))))))
def f_law_mix (ds : List D) : Rv D := (m_law_mix (entry 2 ds)).fin
theorem c_law_mix : FnScope ["cell", "k", "prime", "one"] ["cell", "k"] (defScope s_law_mix) := ⟨rfl, rfl, rfl, by decide +kernel, rfl, by decide +kernel, by decide +kernel⟩
theorem d_law_mix {T : Wd} (E : XK) : SemSs ⟨T, 0, ["cell", "k", "prime", "one"], defScope s_law_mix, wAll E, true, fun _ => true, 0⟩ (defBody s_law_mix) m_law_mix :=
  (sss_cons (ss_set (i := 2) [] (se_ix (SemF.e (sf_lst (sa_cons se_int (sa_cons se_int (sa_cons se_int (sa_cons se_int (sa_cons se_int (sa_cons se_int (sa_cons se_int sa_nil))))))))) (se_mod (se_var 1) se_int)))
    (sss_cons (ss_set (i := 3) [] (se_mod (se_mul (se_add (se_mod (se_var 0) se_int) (se_mul se_int (se_add (se_var 1) se_int))) (se_add (se_add (se_mul (se_var 1) (se_var 1)) (se_mul se_int (se_var 1))) se_int)) (se_var 2)))
    (sss_cons (ss_set (i := 3) [] (se_mod (se_pow (se_var 3) se_int) se_int))
    (sss_cons (ss_set (i := 3) [] (se_mod (se_add (se_add (se_mul (se_var 3) se_int) (se_mul se_int (se_var 1))) se_int) (se_var 2)))
    (sss_one (ss_ret [] (se_div (se_mod (se_pow (se_var 3) se_int) se_int) se_int)))))))
theorem k_law_mix {T : Wd} {f : Addr} {fd : FuncData} (F : Fun T.K "_law_mix" "_law_mix" s_law_mix f fd) (g : T.mg "_law_mix" = some (.ref f)) : Lk T 1 "_law_mix" 2 f_law_mix :=
  ⟨f, fd, ["cell", "k"], (fnG_of (tr := 0) F c_law_mix rfl rfl (d_law_mix)).weak rfl, g, F.kp, F.binds fun _ _ _ _ _ _ us hl => match us, hl with | [_, _], _ => rfl⟩

/-! law_digits -/
abbrev s_law_digits : Stmt := top 20
def m_law_digits : Env' → Res :=
  (sseq (asgF 2 [] (lstF anil))
    (sseq (asg 3 [] (cal dAbs (acons (var 0) anil)))
    (sseq (asg 4 [] (bi2 dGe (var 3) (bi2 dPow (cst (.int 10)) (cst (.int 18)))))
    (sseq (sforR rng1 [] (bName 5) (acons (var 1) anil)
      (sif [] (tand (asB (var 4)) (asB (bi2 dGt (var 3) (cst (.int 0)))))
        (sseq (app 2 [] (bi2 dMod (var 3) (cst (.int 10007))))
        (asg 3 [] (bi2 dDiv (var 3) (cst (.int 10007)))))
        (app 2 [] (cal f_law_mix (acons (var 0) (acons (var 5) anil))))))
    (ret [2] (var 2))))))
def f_law_digits (ds : List D) : Rv D := (m_law_digits (entry 4 ds)).fin
theorem c_law_digits : FnScope ["cell", "many", "found", "left_over", "wide", "k"] ["cell", "many"] (defScope s_law_digits) := ⟨rfl, rfl, rfl, by decide +kernel, rfl, by decide +kernel, by decide +kernel⟩
theorem d_law_digits {T : Wd} (l_law_mix : Lk T 1 "_law_mix" 2 f_law_mix) (m_abs : T.mg "abs" = none) (m_range : T.mg "range" = none) (E : XK) : SemSs ⟨T, 1, ["cell", "many", "found", "left_over", "wide", "k"], defScope s_law_digits, wAll E, true, fun _ => true, 0⟩ (defBody s_law_digits) m_law_digits :=
  (sss_cons (ss_setF (i := 2) [] (sf_lst sa_nil))
    (sss_cons (ss_set (i := 3) [] (se_callB (fun _ _ => call_abs) on_abs m_abs (by decide +kernel) (sa_cons (se_var 0) sa_nil)))
    (sss_cons (ss_set (i := 4) [] (se_ge (se_var 3) (se_pow se_int se_int)))
    (sss_cons (ss_forR1 [] m_range (tg_name 5) (sa_cons (se_var 1) sa_nil)
      (sss_one (ss_if [] (st_w (sw_and (st_val (se_var 4)) (sw_and1 (st_gt (se_var 3) se_int))))
        (sss_cons (ss_app (j := 2) [] (se_mod (se_var 3) se_int))
        (sss_one (ss_set (i := 3) [] (se_div (se_var 3) se_int))))
        (sss_one (ss_app (j := 2) [] (se_call l_law_mix (sa_cons (se_var 0) (sa_cons (se_var 5) sa_nil)) (acons_len (acons_len anil_len))))))))
    (sss_one (ss_ret [2] (se_var 2)))))))
theorem k_law_digits {T : Wd} (l_law_mix : Lk T 1 "_law_mix" 2 f_law_mix) (m_abs : T.mg "abs" = none) (m_range : T.mg "range" = none) {f : Addr} {fd : FuncData} (F : Fun T.K "_law_digits" "_law_digits" s_law_digits f fd) (g : T.mg "_law_digits" = some (.ref f)) : Lk T 2 "_law_digits" 2 f_law_digits :=
  ⟨f, fd, ["cell", "many"], (fnG_of (tr := 0) F c_law_digits rfl rfl (d_law_digits l_law_mix m_abs m_range)).weak rfl, g, F.kp, F.binds fun _ _ _ _ _ _ us hl => match us, hl with | [_, _], _ => rfl⟩

/-! law_at -/
abbrev s_law_at : Stmt := top 21
def m_law_at : Env' → Res :=
  (sseq (sif [] (asB (bi2 dLt (var 1) (cal dLen (acons (var 0) anil))))
      (ret [] (bi2 dIx (var 0) (var 1)))
      snext)
    (ret [] (bi2 dAdd (bi2 dAdd (bi2 dMul (cst (.int 67)) (var 1)) (cst (.int 19))) (cal dLen (acons (var 0) anil)))))
def f_law_at (ds : List D) : Rv D := (m_law_at (entry 0 ds)).fin
theorem c_law_at : FnScope ["script", "k"] ["script", "k"] (defScope s_law_at) := ⟨rfl, rfl, rfl, by decide +kernel, rfl, by decide +kernel, by decide +kernel⟩
theorem d_law_at {T : Wd} (m_len : T.mg "len" = none) (E : XK) : SemSs ⟨T, 0, ["script", "k"], defScope s_law_at, wAll E, true, fun _ => true, 0⟩ (defBody s_law_at) m_law_at :=
  (sss_cons (ss_if [] (st_lt (se_var 1) (se_callB (fun X hX => hX.hK ▸ call_lenA) on_len m_len PySem.boot_len (sa_cons (se_var 0) sa_nil)))
      (sss_one (ss_ret [] (se_ix (se_var 0) (se_var 1))))
      sss_nil)
    (sss_one (ss_ret [] (se_add (se_add (se_mul se_int (se_var 1)) se_int) (se_callB (fun X hX => hX.hK ▸ call_lenA) on_len m_len PySem.boot_len (sa_cons (se_var 0) sa_nil))))))
theorem k_law_at {T : Wd} (m_len : T.mg "len" = none) {f : Addr} {fd : FuncData} (F : Fun T.K "_law_at" "_law_at" s_law_at f fd) (g : T.mg "_law_at" = some (.ref f)) : Lk T 1 "_law_at" 2 f_law_at :=
  ⟨f, fd, ["script", "k"], (fnG_of (tr := 0) F c_law_at rfl rfl (d_law_at m_len)).weak rfl, g, F.kp, F.binds fun _ _ _ _ _ _ us hl => match us, hl with | [_, _], _ => rfl⟩

/-! law_first -/
abbrev s_law_first : Stmt := top 22
def m_law_first : Env' → Res :=
  (ret [] (tupD (acons (cst (.int 0)) (acons (cst (.int 0)) (acons (bi2 dMul (tupD (acons (cst .none) anil)) (cst (.int 8))) (acons (bi2 dMul (tupD (acons (tupD (acons (cst (.int 0)) (acons (cst (.int 0)) (acons (cst (.int 0)) (acons (cst .none) (acons (tupD anil) anil)))))) anil)) (bi2 dAdd (cst (.int 1)) (cal dLen (acons (bi2 dIx (var 0) (cst (.int 1))) anil)))) anil))))))
def f_law_first (ds : List D) : Rv D := (m_law_first (entry 0 ds)).fin
theorem c_law_first : FnScope ["play"] ["play"] (defScope s_law_first) := ⟨rfl, rfl, rfl, by decide +kernel, rfl, by decide +kernel, by decide +kernel⟩
theorem d_law_first {T : Wd} (m_len : T.mg "len" = none) (E : XK) : SemSs ⟨T, 0, ["play"], defScope s_law_first, wAll E, true, fun _ => true, 0⟩ (defBody s_law_first) m_law_first :=
  (sss_one (ss_ret [] (se_tup (sa_cons se_int (sa_cons se_int (sa_cons (se_mul (se_tup (sa_cons se_non sa_nil)) se_int) (sa_cons (se_mul (se_tup (sa_cons (se_tup (sa_cons se_int (sa_cons se_int (sa_cons se_int (sa_cons se_non (sa_cons (se_tup sa_nil) sa_nil)))))) sa_nil)) (se_add se_int (se_callB (fun X hX => hX.hK ▸ call_lenA) on_len m_len PySem.boot_len (sa_cons (se_ix (se_var 0) se_int) sa_nil)))) sa_nil)))))))
theorem k_law_first {T : Wd} (m_len : T.mg "len" = none) {f : Addr} {fd : FuncData} (F : Fun T.K "_law_first" "_law_first" s_law_first f fd) (g : T.mg "_law_first" = some (.ref f)) : Lk T 1 "_law_first" 1 f_law_first :=
  ⟨f, fd, ["play"], (fnG_of (tr := 0) F c_law_first rfl rfl (d_law_first m_len)).weak rfl, g, F.kp, F.binds fun _ _ _ _ _ _ us hl => match us, hl with | [_], _ => rfl⟩

/-! law_take_part -/
abbrev s_law_take_part : Stmt := top 23
def m_law_take_part : Env' → Res :=
  (sseq (untup [5, 6, 7, 8, 9] [] (var 4))
    (sseq (sif [] (asB (bi2 dEq (var 6) (cst (.int 0))))
      (ret [] (tupD (acons (bi2 dSub (var 1) (cst (.int 1))) (acons (var 2) (acons (tupD (acons (var 5) (acons (cst (.int 1)) (acons (var 7) (acons (var 8) (acons (var 9) anil)))))) (acons (cst .none) anil))))))
      snext)
    (sseq (sif [] (asB (bi2 dEq (var 6) (cst (.int 1))))
      (ret [] (tupD (acons (var 1) (acons (var 2) (acons (tupD (acons (var 5) (acons (cst (.int 2)) (acons (var 2) (acons (var 8) (acons (var 9) anil)))))) (acons (cst .none) anil))))))
      snext)
    (sseq (sif [] (asB (bi2 dEq (var 6) (cst (.int 2))))
      (sseq (sif [] (asB (bi2 dEq (var 1) (var 7)))
        (ret [] (tupD (acons (var 1) (acons (var 2) (acons (tupD (acons (var 5) (acons (bi2 dAdd (cst (.int 3)) (cal dInt (acons (bi2 dEq (var 0) (cst (.str "bare"))) anil))) (acons (var 7) (acons (bi2 dIx (var 3) (var 1)) (acons (var 9) anil)))))) (acons (cst .none) anil))))))
        snext)
      (ret [] (tupD (acons (cal dMax (acons (var 1) (acons (var 7) anil))) (acons (var 2) (acons (var 4) (acons (tupD (acons (bi2 dIx (lstD (lstF (acons (cst .none) (acons (bi2 dIx (var 3) (var 1)) anil)))) (cal dInt (acons (bi2 dGt (var 1) (var 7)) anil))) anil)) anil)))))))
      snext)
    (sseq (sif [] (asB (bi2 dEq (var 6) (cst (.int 3))))
      (sseq (asg 10 [] (var 8))
      (sseq (sif [] (asB (bi2 dNe (var 2) (var 7)))
        (asg 10 [] (cst .none))
        snext)
      (ret [] (tupD (acons (var 1) (acons (bi2 dAdd (var 2) (cal dInt (acons (bi2 dEq (var 2) (var 7)) anil))) (acons (tupD (acons (var 5) (acons (cst (.int 4)) (acons (var 7) (acons (var 10) (acons (var 9) anil)))))) (acons (cst .none) anil))))))))
      snext)
    (ret [] (tupD (acons (bi2 dAdd (var 7) (cst (.int 1))) (acons (var 2) (acons (var 4) (acons (tupD (acons (var 8) anil)) anil)))))))))))
def f_law_take_part (ds : List D) : Rv D := (m_law_take_part (entry 6 ds)).fin
theorem c_law_take_part : FnScope ["rules", "near", "far", "box", "part", "number", "phase", "f", "x", "told", "kept_thing"] ["rules", "near", "far", "box", "part"] (defScope s_law_take_part) := ⟨rfl, rfl, rfl, by decide +kernel, rfl, by decide +kernel, by decide +kernel⟩
theorem d_law_take_part {T : Wd} (m_int : T.mg "int" = none) (m_max : T.mg "max" = none) (E : XK) : SemSs ⟨T, 0, ["rules", "near", "far", "box", "part", "number", "phase", "f", "x", "told", "kept_thing"], defScope s_law_take_part, wAll E, true, fun _ => true, 0⟩ (defBody s_law_take_part) m_law_take_part :=
  (sss_cons (ss_untup [] (sg_cons 5 (sg_cons 6 (sg_cons 7 (sg_cons 8 (sg_cons 9 sg_nil))))) (se_var 4))
    (sss_cons (ss_if [] (st_eq (se_var 6) se_int)
      (sss_one (ss_ret [] (se_tup (sa_cons (se_sub (se_var 1) se_int) (sa_cons (se_var 2) (sa_cons (se_tup (sa_cons (se_var 5) (sa_cons se_int (sa_cons (se_var 7) (sa_cons (se_var 8) (sa_cons (se_var 9) sa_nil)))))) (sa_cons se_non sa_nil)))))))
      sss_nil)
    (sss_cons (ss_if [] (st_eq (se_var 6) se_int)
      (sss_one (ss_ret [] (se_tup (sa_cons (se_var 1) (sa_cons (se_var 2) (sa_cons (se_tup (sa_cons (se_var 5) (sa_cons se_int (sa_cons (se_var 2) (sa_cons (se_var 8) (sa_cons (se_var 9) sa_nil)))))) (sa_cons se_non sa_nil)))))))
      sss_nil)
    (sss_cons (ss_if [] (st_eq (se_var 6) se_int)
      (sss_cons (ss_if [] (st_eq (se_var 1) (se_var 7))
        (sss_one (ss_ret [] (se_tup (sa_cons (se_var 1) (sa_cons (se_var 2) (sa_cons (se_tup (sa_cons (se_var 5) (sa_cons (se_add se_int (se_callTy (fun _ _ => call_int1) on_int m_int (by decide +kernel) (sa_cons (se_eq (se_var 0) se_str) sa_nil))) (sa_cons (se_var 7) (sa_cons (se_ix (se_var 3) (se_var 1)) (sa_cons (se_var 9) sa_nil)))))) (sa_cons se_non sa_nil)))))))
        sss_nil)
      (sss_one (ss_ret [] (se_tup (sa_cons (se_max m_max (sa_cons (se_var 1) (sa_cons (se_var 7) sa_nil))) (sa_cons (se_var 2) (sa_cons (se_var 4) (sa_cons (se_tup (sa_cons (se_ix (SemF.e (sf_lst (sa_cons se_non (sa_cons (se_ix (se_var 3) (se_var 1)) sa_nil)))) (se_callTy (fun _ _ => call_int1) on_int m_int (by decide +kernel) (sa_cons (se_gt (se_var 1) (se_var 7)) sa_nil))) sa_nil)) sa_nil))))))))
      sss_nil)
    (sss_cons (ss_if [] (st_eq (se_var 6) se_int)
      (sss_cons (ss_set (i := 10) [] (se_var 8))
      (sss_cons (ss_if [] (st_ne (se_var 2) (se_var 7))
        (sss_one (ss_set (i := 10) [] se_non))
        sss_nil)
      (sss_one (ss_ret [] (se_tup (sa_cons (se_var 1) (sa_cons (se_add (se_var 2) (se_callTy (fun _ _ => call_int1) on_int m_int (by decide +kernel) (sa_cons (se_eq (se_var 2) (se_var 7)) sa_nil))) (sa_cons (se_tup (sa_cons (se_var 5) (sa_cons se_int (sa_cons (se_var 7) (sa_cons (se_var 10) (sa_cons (se_var 9) sa_nil)))))) (sa_cons se_non sa_nil)))))))))
      sss_nil)
    (sss_one (ss_ret [] (se_tup (sa_cons (se_add (se_var 7) se_int) (sa_cons (se_var 2) (sa_cons (se_var 4) (sa_cons (se_tup (sa_cons (se_var 8) sa_nil)) sa_nil))))))))))))
theorem k_law_take_part {T : Wd} (m_int : T.mg "int" = none) (m_max : T.mg "max" = none) {f : Addr} {fd : FuncData} (F : Fun T.K "_law_take_part" "_law_take_part" s_law_take_part f fd) (g : T.mg "_law_take_part" = some (.ref f)) : Lk T 1 "_law_take_part" 5 f_law_take_part :=
  ⟨f, fd, ["rules", "near", "far", "box", "part"], (fnG_of (tr := 0) F c_law_take_part rfl rfl (d_law_take_part m_int m_max)).weak rfl, g, F.kp, F.binds fun _ _ _ _ _ _ us hl => match us, hl with | [_, _, _, _, _], _ => rfl⟩

/-! law_try_part -/
abbrev s_law_try_part : Stmt := top 24
def m_law_try_part : Env' → Res :=
  (sseq (untup [5, 6, 7, 8, 9] [] (var 4))
    (sseq (sif [] (asB (bi2 dEq (var 6) (cst (.int 0))))
      (ret [] (tupD (acons (var 2) (acons (tupD (acons (var 5) (acons (cst (.int 1)) (acons (var 2) (acons (var 8) (acons (var 9) anil)))))) (acons (cst .none) anil)))))
      snext)
    (sseq (sif [] (asB (bi2 dEq (var 6) (cst (.int 1))))
      (sseq (sif [] (asB (bi2 dLe (var 1) (var 7)))
        (ret [] (tupD (acons (var 2) (acons (var 4) (acons (tupD (acons (cst .none) anil)) anil)))))
        snext)
      (ret [] (tupD (acons (var 2) (acons (tupD (acons (var 5) (acons (cst (.int 2)) (acons (var 7) (acons (var 8) (acons (var 9) anil)))))) (acons (cst .none) anil))))))
      snext)
    (sseq (sif [] (asB (bi2 dEq (var 6) (cst (.int 2))))
      (ret [] (tupD (acons (var 2) (acons (tupD (acons (var 5) (acons (cst (.int 3)) (acons (var 7) (acons (bi2 dIx (var 3) (var 7)) (acons (var 9) anil)))))) (acons (cst .none) anil)))))
      snext)
    (sseq (sif [] (tor (asB (bi2 dEq (var 2) (var 7))) (asB (bi2 dEq (var 0) (cst (.str "blind")))))
      (ret [] (tupD (acons (bi2 dAdd (var 7) (cst (.int 1))) (acons (var 4) (acons (tupD (acons (var 8) anil)) anil)))))
      snext)
    (ret [] (tupD (acons (var 2) (acons (var 4) (acons (tupD (acons (cst (.str "lost")) anil)) anil))))))))))
def f_law_try_part (ds : List D) : Rv D := (m_law_try_part (entry 5 ds)).fin
theorem c_law_try_part : FnScope ["rules", "near", "far", "box", "part", "number", "phase", "f", "x", "told"] ["rules", "near", "far", "box", "part"] (defScope s_law_try_part) := ⟨rfl, rfl, rfl, by decide +kernel, rfl, by decide +kernel, by decide +kernel⟩
theorem d_law_try_part {T : Wd} (E : XK) : SemSs ⟨T, 0, ["rules", "near", "far", "box", "part", "number", "phase", "f", "x", "told"], defScope s_law_try_part, wAll E, true, fun _ => true, 0⟩ (defBody s_law_try_part) m_law_try_part :=
  (sss_cons (ss_untup [] (sg_cons 5 (sg_cons 6 (sg_cons 7 (sg_cons 8 (sg_cons 9 sg_nil))))) (se_var 4))
    (sss_cons (ss_if [] (st_eq (se_var 6) se_int)
      (sss_one (ss_ret [] (se_tup (sa_cons (se_var 2) (sa_cons (se_tup (sa_cons (se_var 5) (sa_cons se_int (sa_cons (se_var 2) (sa_cons (se_var 8) (sa_cons (se_var 9) sa_nil)))))) (sa_cons se_non sa_nil))))))
      sss_nil)
    (sss_cons (ss_if [] (st_eq (se_var 6) se_int)
      (sss_cons (ss_if [] (st_le (se_var 1) (se_var 7))
        (sss_one (ss_ret [] (se_tup (sa_cons (se_var 2) (sa_cons (se_var 4) (sa_cons (se_tup (sa_cons se_non sa_nil)) sa_nil))))))
        sss_nil)
      (sss_one (ss_ret [] (se_tup (sa_cons (se_var 2) (sa_cons (se_tup (sa_cons (se_var 5) (sa_cons se_int (sa_cons (se_var 7) (sa_cons (se_var 8) (sa_cons (se_var 9) sa_nil)))))) (sa_cons se_non sa_nil)))))))
      sss_nil)
    (sss_cons (ss_if [] (st_eq (se_var 6) se_int)
      (sss_one (ss_ret [] (se_tup (sa_cons (se_var 2) (sa_cons (se_tup (sa_cons (se_var 5) (sa_cons se_int (sa_cons (se_var 7) (sa_cons (se_ix (se_var 3) (se_var 7)) (sa_cons (se_var 9) sa_nil)))))) (sa_cons se_non sa_nil))))))
      sss_nil)
    (sss_cons (ss_if [] (st_w (sw_or (st_eq (se_var 2) (se_var 7)) (sw_or1 (st_eq (se_var 0) se_str))))
      (sss_one (ss_ret [] (se_tup (sa_cons (se_add (se_var 7) se_int) (sa_cons (se_var 4) (sa_cons (se_tup (sa_cons (se_var 8) sa_nil)) sa_nil))))))
      sss_nil)
    (sss_one (ss_ret [] (se_tup (sa_cons (se_var 2) (sa_cons (se_var 4) (sa_cons (se_tup (sa_cons se_str sa_nil)) sa_nil)))))))))))
theorem k_law_try_part {T : Wd} {f : Addr} {fd : FuncData} (F : Fun T.K "_law_try_part" "_law_try_part" s_law_try_part f fd) (g : T.mg "_law_try_part" = some (.ref f)) : Lk T 1 "_law_try_part" 5 f_law_try_part :=
  ⟨f, fd, ["rules", "near", "far", "box", "part"], (fnG_of (tr := 0) F c_law_try_part rfl rfl (d_law_try_part)).weak rfl, g, F.kp, F.binds fun _ _ _ _ _ _ us hl => match us, hl with | [_, _, _, _, _], _ => rfl⟩

/-! law_small_step -/
abbrev s_law_small_step : Stmt := top 25
def m_law_small_step : Env' → Res :=
  (sseq (untup [4, 5, 6, 7] [] (var 2))
    (sseq (asg 8 [] (bi2 dIx (var 7) (var 3)))
    (sseq (asg 9 [] (bi2 dIx (bi2 dAdd (tupD (acons (cal dLen (acons (bi2 dIx (var 0) (cst (.int 0))) anil)) anil)) (bi2 dIx (var 0) (cst (.int 1)))) (var 3)))
    (sseq (sif [] (asB (bi2 dEq (bi2 dIx (var 8) (cst (.int 0))) (var 9)))
      (ret [] (cst .none))
      snext)
    (sseq (sif [] (asB (bi2 dGt (var 3) (cst (.int 0))))
      (untup [5, 8, 10] [] (cal f_law_try_part (acons (var 1) (acons (var 4) (acons (var 5) (acons (var 6) (acons (var 8) anil)))))))
      (sif [] (asB (bi2 dEq (bi2 dIx (bi2 dIx (bi2 dIx (var 0) (cst (.int 0))) (bi2 dIx (var 8) (cst (.int 0)))) (cst (.int 0))) (cst (.str "take"))))
        (untup [4, 5, 8, 10] [] (cal f_law_take_part (acons (var 1) (acons (var 4) (acons (var 5) (acons (var 6) (acons (var 8) anil)))))))
        (sseq (asg 10 [] (cst .none))
        (sif [] (asB (bi2 dEq (bi2 dIx (var 8) (cst (.int 1))) (cst (.int 0))))
          (sseq (asg 6 [] (bi2 dAdd (bi2 dAdd (slc (var 6) onone (osome (var 4))) (tupD (acons (bi2 dIx (bi2 dIx (bi2 dIx (var 0) (cst (.int 0))) (bi2 dIx (var 8) (cst (.int 0)))) (cst (.int 1))) anil))) (slc (var 6) (osome (bi2 dAdd (var 4) (cst (.int 1)))) onone)))
          (asg 8 [] (bi2 dAdd (tupD (acons (bi2 dIx (var 8) (cst (.int 0))) (acons (cst (.int 1)) anil))) (slc (var 8) (osome (cst (.int 2))) onone))))
          (sseq (asg 4 [] (bi2 dAdd (var 4) (cst (.int 1))))
          (asg 10 [] (tupD anil)))))))
    (sseq (sif [] (asB (bi2 dIsNot (var 10) (cst .none)))
      (asg 8 [] (tupD (acons (bi2 dAdd (bi2 dIx (var 8) (cst (.int 0))) (cst (.int 1))) (acons (cst (.int 0)) (acons (cst (.int 0)) (acons (cst .none) (acons (bi2 dAdd (bi2 dIx (var 8) (cst (.int 4))) (var 10)) anil)))))))
      snext)
    (ret [] (tupD (acons (var 4) (acons (var 5) (acons (var 6) (acons (bi2 dAdd (bi2 dAdd (slc (var 7) onone (osome (var 3))) (tupD (acons (var 8) anil))) (slc (var 7) (osome (bi2 dAdd (var 3) (cst (.int 1)))) onone)) anil))))))))))))
def f_law_small_step (ds : List D) : Rv D := (m_law_small_step (entry 7 ds)).fin
theorem c_law_small_step : FnScope ["play", "rules", "state", "who", "near", "far", "box", "parts_here", "part", "most", "what"] ["play", "rules", "state", "who"] (defScope s_law_small_step) := ⟨rfl, rfl, rfl, by decide +kernel, rfl, by decide +kernel, by decide +kernel⟩
theorem d_law_small_step {T : Wd} (l_law_try_part : Lk T 1 "_law_try_part" 5 f_law_try_part) (l_law_take_part : Lk T 1 "_law_take_part" 5 f_law_take_part) (m_len : T.mg "len" = none) (E : XK) : SemSs ⟨T, 1, ["play", "rules", "state", "who", "near", "far", "box", "parts_here", "part", "most", "what"], defScope s_law_small_step, wAll E, true, fun _ => true, 0⟩ (defBody s_law_small_step) m_law_small_step :=
  (sss_cons (ss_untup [] (sg_cons 4 (sg_cons 5 (sg_cons 6 (sg_cons 7 sg_nil)))) (se_var 2))
    (sss_cons (ss_set (i := 8) [] (se_ix (se_var 7) (se_var 3)))
    (sss_cons (ss_set (i := 9) [] (se_ix (se_add (se_tup (sa_cons (se_callB (fun X hX => hX.hK ▸ call_lenA) on_len m_len PySem.boot_len (sa_cons (se_ix (se_var 0) se_int) sa_nil)) sa_nil)) (se_ix (se_var 0) se_int)) (se_var 3)))
    (sss_cons (ss_if [] (st_eq (se_ix (se_var 8) se_int) (se_var 9))
      (sss_one (ss_ret [] se_non))
      sss_nil)
    (sss_cons (ss_if [] (st_gt (se_var 3) se_int)
      (sss_one (ss_untup [] (sg_cons 5 (sg_cons 8 (sg_cons 10 sg_nil))) (se_call l_law_try_part (sa_cons (se_var 1) (sa_cons (se_var 4) (sa_cons (se_var 5) (sa_cons (se_var 6) (sa_cons (se_var 8) sa_nil))))) (acons_len (acons_len (acons_len (acons_len (acons_len anil_len))))))))
      (sss_one (ss_if [] (st_eq (se_ix (se_ix (se_ix (se_var 0) se_int) (se_ix (se_var 8) se_int)) se_int) se_str)
        (sss_one (ss_untup [] (sg_cons 4 (sg_cons 5 (sg_cons 8 (sg_cons 10 sg_nil)))) (se_call l_law_take_part (sa_cons (se_var 1) (sa_cons (se_var 4) (sa_cons (se_var 5) (sa_cons (se_var 6) (sa_cons (se_var 8) sa_nil))))) (acons_len (acons_len (acons_len (acons_len (acons_len anil_len))))))))
        (sss_cons (ss_set (i := 10) [] se_non)
        (sss_one (ss_if [] (st_eq (se_ix (se_var 8) se_int) se_int)
          (sss_cons (ss_set (i := 6) [] (se_add (se_add (se_slice (se_var 6) so_none (so_some (se_var 4))) (se_tup (sa_cons (se_ix (se_ix (se_ix (se_var 0) se_int) (se_ix (se_var 8) se_int)) se_int) sa_nil))) (se_slice (se_var 6) (so_some (se_add (se_var 4) se_int)) so_none)))
          (sss_one (ss_set (i := 8) [] (se_add (se_tup (sa_cons (se_ix (se_var 8) se_int) (sa_cons se_int sa_nil))) (se_slice (se_var 8) (so_some se_int) so_none)))))
          (sss_cons (ss_set (i := 4) [] (se_add (se_var 4) se_int))
          (sss_one (ss_set (i := 10) [] (se_tup sa_nil))))))))))
    (sss_cons (ss_if [] (st_isnot (se_var 10) se_non)
      (sss_one (ss_set (i := 8) [] (se_tup (sa_cons (se_add (se_ix (se_var 8) se_int) se_int) (sa_cons se_int (sa_cons se_int (sa_cons se_non (sa_cons (se_add (se_ix (se_var 8) se_int) (se_var 10)) sa_nil))))))))
      sss_nil)
    (sss_one (ss_ret [] (se_tup (sa_cons (se_var 4) (sa_cons (se_var 5) (sa_cons (se_var 6) (sa_cons (se_add (se_add (se_slice (se_var 7) so_none (so_some (se_var 3))) (se_tup (sa_cons (se_var 8) sa_nil))) (se_slice (se_var 7) (so_some (se_add (se_var 3) se_int)) so_none)) sa_nil)))))))))))))
theorem k_law_small_step {T : Wd} (l_law_try_part : Lk T 1 "_law_try_part" 5 f_law_try_part) (l_law_take_part : Lk T 1 "_law_take_part" 5 f_law_take_part) (m_len : T.mg "len" = none) {f : Addr} {fd : FuncData} (F : Fun T.K "_law_small_step" "_law_small_step" s_law_small_step f fd) (g : T.mg "_law_small_step" = some (.ref f)) : Lk T 2 "_law_small_step" 4 f_law_small_step :=
  ⟨f, fd, ["play", "rules", "state", "who"], (fnG_of (tr := 0) F c_law_small_step rfl rfl (d_law_small_step l_law_try_part l_law_take_part m_len)).weak rfl, g, F.kp, F.binds fun _ _ _ _ _ _ us hl => match us, hl with | [_, _, _, _], _ => rfl⟩

/-! law_told_by -/
abbrev s_law_told_by : Stmt := top 26
def m_law_told_by : Env' → Res :=
  (sseq (untup [1, 2, 3, 4] [] (var 0))
    (ret [] (tupD (acons (lstD (cmp [5] (vName 5) yes (lstD (calF dList (acons (bi2 dIx (var 5) (cst (.int 4))) anil))) (srcE (var 4)))) (acons (lstD (calF dList (acons (slc (var 3) (osome (var 2)) (osome (cal dMax (acons (var 1) (acons (var 2) anil))))) anil))) anil)))))
def f_law_told_by (ds : List D) : Rv D := (m_law_told_by (entry 5 ds)).fin
theorem c_law_told_by : FnScope ["state", "near", "far", "box", "parts_here", "part"] ["state"] (defScope s_law_told_by) := ⟨rfl, rfl, rfl, by decide +kernel, rfl, by decide +kernel, by decide +kernel⟩
theorem d_law_told_by {T : Wd} (m_list : T.mg "list" = none) (m_max : T.mg "max" = none) (E : XK) : SemSs ⟨T, 0, ["state", "near", "far", "box", "parts_here", "part"], defScope s_law_told_by, wAll E, true, fun _ => true, 0⟩ (defBody s_law_told_by) m_law_told_by :=
  (sss_cons (ss_untup [] (sg_cons 1 (sg_cons 2 (sg_cons 3 (sg_cons 4 sg_nil)))) (se_var 0))
    (sss_one (ss_ret [] (se_tup (sa_cons (SemF.e (SemC.f (sc_list [("part", 5)] [5] (se_var 4) (by show blkC ["state", "near", "far", "box", "parts_here", "part"] (defScope s_law_told_by) _ _ = true; decide +kernel) (tv_name 5) sp_nil (sx_e (SemF.e (sf_callTy (fun X hX => hX.hK ▸ call_list_of) on_list m_list (by decide +kernel) (sa_cons (se_ix (se_var 5) se_int) sa_nil))))))) (sa_cons (SemF.e (sf_callTy (fun X hX => hX.hK ▸ call_list_of) on_list m_list (by decide +kernel) (sa_cons (se_slice (se_var 3) (so_some (se_var 2)) (so_some (se_max m_max (sa_cons (se_var 1) (sa_cons (se_var 2) sa_nil))))) sa_nil))) sa_nil))))))
theorem k_law_told_by {T : Wd} (m_list : T.mg "list" = none) (m_max : T.mg "max" = none) {f : Addr} {fd : FuncData} (F : Fun T.K "_law_told_by" "_law_told_by" s_law_told_by f fd) (g : T.mg "_law_told_by" = some (.ref f)) : Lk T 1 "_law_told_by" 1 f_law_told_by :=
  ⟨f, fd, ["state"], (fnG_of (tr := 0) F c_law_told_by rfl rfl (d_law_told_by m_list m_max)).weak rfl, g, F.kp, F.binds fun _ _ _ _ _ _ us hl => match us, hl with | [_], _ => rfl⟩

/-! law_play -/
abbrev s_law_play : Stmt := top 27
def m_law_play : Env' → Res :=
  (sseq (asgF 3 [] (lstF anil))
    (sseq (sforR rng1 [] (bName 4) (acons (bi2 dMod (bi2 dIx (var 0) (cst (.int 0))) (bi2 dAdd (var 1) (cst (.int 1)))) anil)
      (sseq (asg 5 [] (bi2 dIx (var 0) (bi2 dAdd (cst (.int 2)) (var 4))))
      (sseq (asg 6 [] (bi2 dIx (lstD (lstF (acons (cst (.int 7)) (acons (cst (.int 10)) (acons (cst (.int 42)) (acons (cst (.int 99)) (acons (una dNeg (cst (.int 6))) (acons (una dNeg (cst (.int 99))) (acons (bi2 dPow (cst (.int 10)) (cst (.int 9))) (acons (bi2 dSub (bi2 dPow (cst (.int 10)) (cst (.int 30))) (cst (.int 1))) (acons (cst (.int 1)) (acons (cst (.int 100)) (acons (cst (.int 12)) (acons (una dNeg (cst (.int 12))) anil)))))))))))))) (bi2 dMod (bi2 dDiv (var 5) (cst (.int 6))) (cst (.int 12)))))
      (sseq (asg 7 [] (bi2 dIx (lstD (lstF (acons (bi2 dMod (bi2 dIx (var 0) (cst (.int 1))) (cst (.int 7))) (acons (bi2 dMod (bi2 dDiv (var 5) (cst (.int 72))) (cst (.int 5))) anil)))) (cal dInt (acons (bi2 dGt (bi2 dMod (bi2 dIx (var 0) (cst (.int 1))) (cst (.int 7))) (cst (.int 4))) anil))))
      (sseq (asg 8 [] (bi2 dIx (lstD (lstF (acons (var 4) (acons (bi2 dMod (bi2 dDiv (var 5) (cst (.int 6))) (cst (.int 3))) (acons (bi2 dSub (una dNeg (cst (.int 1))) (bi2 dMod (bi2 dDiv (var 5) (cst (.int 6))) (cst (.int 4)))) (acons (bi2 dSub (bi2 dPow (cst (.int 10)) (cst (.int 29))) (var 5)) (acons (var 6) anil))))))) (var 7)))
      (app 3 [] (bi2 dIx (lstD (lstF (acons (tupD (acons (cst (.str "lay")) (acons (var 8) anil))) (acons (tupD (acons (cst (.str "take")) anil)) (acons (tupD (acons (cst (.str "lay")) (acons (var 8) anil))) anil))))) (bi2 dMod (bi2 dAdd (var 5) (bi2 dDiv (var 4) (cst (.int 3)))) (cst (.int 3))))))))))
    (ret [3] (tupD (acons (cal dTuple (acons (var 3) anil)) (acons (var 2) anil))))))
def f_law_play (ds : List D) : Rv D := (m_law_play (entry 6 ds)).fin
theorem c_law_play : FnScope ["some", "most", "tries", "deeds", "k", "one", "far", "way", "thing"] ["some", "most", "tries"] (defScope s_law_play) := ⟨rfl, rfl, rfl, by decide +kernel, rfl, by decide +kernel, by decide +kernel⟩
theorem d_law_play {T : Wd} (m_int : T.mg "int" = none) (m_range : T.mg "range" = none) (m_tuple : T.mg "tuple" = none) (E : XK) : SemSs ⟨T, 0, ["some", "most", "tries", "deeds", "k", "one", "far", "way", "thing"], defScope s_law_play, wAll E, true, fun _ => true, 0⟩ (defBody s_law_play) m_law_play :=
  (sss_cons (ss_setF (i := 3) [] (sf_lst sa_nil))
    (sss_cons (ss_forR1 [] m_range (tg_name 4) (sa_cons (se_mod (se_ix (se_var 0) se_int) (se_add (se_var 1) se_int)) sa_nil)
      (sss_cons (ss_set (i := 5) [] (se_ix (se_var 0) (se_add se_int (se_var 4))))
      (sss_cons (ss_set (i := 6) [] (se_ix (SemF.e (sf_lst (sa_cons se_int (sa_cons se_int (sa_cons se_int (sa_cons se_int (sa_cons (se_neg se_int) (sa_cons (se_neg se_int) (sa_cons (se_pow se_int se_int) (sa_cons (se_sub (se_pow se_int se_int) se_int) (sa_cons se_int (sa_cons se_int (sa_cons se_int (sa_cons (se_neg se_int) sa_nil)))))))))))))) (se_mod (se_div (se_var 5) se_int) se_int)))
      (sss_cons (ss_set (i := 7) [] (se_ix (SemF.e (sf_lst (sa_cons (se_mod (se_ix (se_var 0) se_int) se_int) (sa_cons (se_mod (se_div (se_var 5) se_int) se_int) sa_nil)))) (se_callTy (fun _ _ => call_int1) on_int m_int (by decide +kernel) (sa_cons (se_gt (se_mod (se_ix (se_var 0) se_int) se_int) se_int) sa_nil))))
      (sss_cons (ss_set (i := 8) [] (se_ix (SemF.e (sf_lst (sa_cons (se_var 4) (sa_cons (se_mod (se_div (se_var 5) se_int) se_int) (sa_cons (se_sub (se_neg se_int) (se_mod (se_div (se_var 5) se_int) se_int)) (sa_cons (se_sub (se_pow se_int se_int) (se_var 5)) (sa_cons (se_var 6) sa_nil))))))) (se_var 7)))
      (sss_one (ss_app (j := 3) [] (se_ix (SemF.e (sf_lst (sa_cons (se_tup (sa_cons se_str (sa_cons (se_var 8) sa_nil))) (sa_cons (se_tup (sa_cons se_str sa_nil)) (sa_cons (se_tup (sa_cons se_str (sa_cons (se_var 8) sa_nil))) sa_nil))))) (se_mod (se_add (se_var 5) (se_div (se_var 4) se_int)) se_int)))))))))
    (sss_one (ss_ret [3] (se_tup (sa_cons (se_callTy (fun X hX => hX.hK ▸ call_tuple_of) on_tuple m_tuple (by decide +kernel) (sa_cons (se_var 3) sa_nil)) (sa_cons (se_var 2) sa_nil)))))))
theorem k_law_play {T : Wd} (m_int : T.mg "int" = none) (m_range : T.mg "range" = none) (m_tuple : T.mg "tuple" = none) {f : Addr} {fd : FuncData} (F : Fun T.K "_law_play" "_law_play" s_law_play f fd) (g : T.mg "_law_play" = some (.ref f)) : Lk T 1 "_law_play" 3 f_law_play :=
  ⟨f, fd, ["some", "most", "tries"], (fnG_of (tr := 0) F c_law_play rfl rfl (d_law_play m_int m_range m_tuple)).weak rfl, g, F.kp, F.binds fun _ _ _ _ _ _ us hl => match us, hl with | [_, _, _], _ => rfl⟩

/-! law_all -/
abbrev s_law_all : Stmt := top 28
def m_law_all : Env' → Res :=
  (sseq (asg 2 [] (cal f_law_first (acons (var 0) anil)))
    (sseq (asgD1 3 (var 2) (cst (.bool true)))
    (sseq (asgF 4 [] (lstF (acons (var 2) anil)))
    (sseq (asgF 5 [] (lstF anil))
    (sseq (fun ρ => whileL [4] (asB (bi2 dNe (var 4) (lstD (lstF anil)))) (sseq (popA 6 4)
      (sseq (asgC 7 0 [] (cmp [9] (vName 9) yes (cal f_law_small_step (acons (var 0) (acons (var 1) (acons (var 6) (acons (var 9) anil))))) (srcR rng1 (acons (bi2 dAdd (cst (.int 1)) (cal dLen (acons (bi2 dIx (var 0) (cst (.int 1))) anil))) anil))))
      (sseq (asgC 7 0 [7] (cmp [8] (vName 8) (asB (bi2 dIsNot (var 8) (cst .none))) (var 8) (srcE (var 7))))
      (sseq (sif [7] (asB (bi2 dEq (var 7) (lstD (lstF anil))))
        (app 5 [] (var 6))
        snext)
      (sfor [7] (bName 8) (var 7)
        (sif [3] (asB (bi2 dNotIn (var 8) (var 3)))
          (sseq (dput 3 [] (var 8) (cst (.bool true)))
          (app 4 [] (var 8)))
          snext)))))) ((fun _ => 1000000000) ρ) ρ)
    (ret [3, 5] (tupD (acons (var 3) (acons (var 5) anil)))))))))
def f_law_all (ds : List D) : Rv D := (m_law_all (entry 8 ds)).fin
theorem c_law_all : FnScope ["play", "rules", "first", "met", "waiting", "last", "state", "some", "other", "who"] ["play", "rules"] (defScope s_law_all) := ⟨rfl, rfl, rfl, by decide +kernel, rfl, by decide +kernel, by decide +kernel⟩
theorem d_law_all {T : Wd} (l_law_first : Lk T 1 "_law_first" 1 f_law_first) (l_law_small_step : Lk T 2 "_law_small_step" 4 f_law_small_step) (m_len : T.mg "len" = none) (m_range : T.mg "range" = none) (E : XK) : SemSs ⟨T, 2, ["play", "rules", "first", "met", "waiting", "last", "state", "some", "other", "who"], defScope s_law_all, wAll E, true, fun _ => true, 0⟩ (defBody s_law_all) m_law_all :=
  (sss_cons (ss_set (i := 2) [] (se_call l_law_first (sa_cons (se_var 0) sa_nil) (acons_len anil_len)))
    (sss_cons (ss_dnew1 (i := 3) (se_var 2) se_bl)
    (sss_cons (ss_setF (i := 4) [] (sf_lst (sa_cons (se_var 2) sa_nil)))
    (sss_cons (ss_setF (i := 5) [] (sf_lst sa_nil))
    (sss_cons (ss_while [4] (fun _ => 1000000000) (st_ne (se_var 4) (SemF.e (sf_lst sa_nil))) (sss_cons (ss_pop (i := 6) (j := 4))
      (sss_cons (ss_setC (i := 7) (n := 0) [] (sc_range1 [("who", 9)] [9] m_range (sa_cons (se_add se_int (se_callB (fun X hX => hX.hK ▸ call_lenA) on_len m_len PySem.boot_len (sa_cons (se_ix (se_var 0) se_int) sa_nil))) sa_nil) (by show blkC ["play", "rules", "first", "met", "waiting", "last", "state", "some", "other", "who"] (defScope s_law_all) _ _ = true; decide +kernel) (tv_name 9) sp_nil (sx_e (se_call l_law_small_step (sa_cons (se_var 0) (sa_cons (se_var 1) (sa_cons (se_var 6) (sa_cons (se_var 9) sa_nil)))) (acons_len (acons_len (acons_len (acons_len anil_len))))))))
      (sss_cons (ss_setC (i := 7) (n := 0) [7] (sc_list [("other", 8)] [8] (se_var 7) (by show blkC ["play", "rules", "first", "met", "waiting", "last", "state", "some", "other", "who"] (defScope s_law_all) _ _ = true; decide +kernel) (tv_name 8) (sp_one (st_isnot (se_var 8) se_non)) (sx_e (se_var 8))))
      (sss_cons (ss_if [7] (st_eq (se_var 7) (SemF.e (sf_lst sa_nil)))
        (sss_one (ss_app (j := 5) [] (se_var 6)))
        sss_nil)
      (sss_one (ss_for [7] (tg_name 8) (se_var 7)
        (sss_one (ss_if [3] (st_notin (se_var 8) (se_var 3))
          (sss_cons (ss_dput (j := 3) [] (se_var 8) se_bl)
          (sss_one (ss_app (j := 4) [] (se_var 8))))
          sss_nil)))))))))
    (sss_one (ss_ret [3, 5] (se_tup (sa_cons (se_var 3) (sa_cons (se_var 5) sa_nil))))))))))
theorem k_law_all {T : Wd} (l_law_first : Lk T 1 "_law_first" 1 f_law_first) (l_law_small_step : Lk T 2 "_law_small_step" 4 f_law_small_step) (m_len : T.mg "len" = none) (m_range : T.mg "range" = none) {f : Addr} {fd : FuncData} (F : Fun T.K "_law_all" "_law_all" s_law_all f fd) (g : T.mg "_law_all" = some (.ref f)) : Lk T 3 "_law_all" 2 f_law_all :=
  ⟨f, fd, ["play", "rules"], (fnG_of (tr := 0) F c_law_all rfl rfl (d_law_all l_law_first l_law_small_step m_len m_range)).weak rfl, g, F.kp, F.binds fun _ _ _ _ _ _ us hl => match us, hl with | [_, _], _ => rfl⟩

/-! law_small_play -/
abbrev s_law_small_play : Stmt := top 29
def m_law_small_play : Env' → Res :=
  (sseq (asg 1 [] (lstD (lstF (acons (tupD anil) (acons (tupD (acons (cst (.int 1)) anil)) (acons (tupD (acons (cst (.int 2)) anil)) (acons (tupD (acons (cst (.int 1)) (acons (cst (.int 1)) anil))) (acons (tupD (acons (cst (.int 1)) anil)) (acons (tupD (acons (cst (.int 0)) (acons (cst (.int 1)) anil))) (acons (tupD (acons (cst (.int 2)) anil)) (acons (tupD (acons (cst (.int 1)) (acons (cst (.int 1)) anil))) anil)))))))))))
    (sseq (asg 1 [] (lstD (biF dAddF (var 1) (lstD (lstF (acons (tupD (acons (cst (.int 1)) (acons (cst (.int 0)) anil))) (acons (tupD (acons (cst (.int 3)) anil)) (acons (tupD (acons (cst (.int 1)) (acons (cst (.int 1)) anil))) (acons (tupD (acons (cst (.int 2)) (acons (cst (.int 0)) anil))) (acons (tupD (acons (cst (.int 1)) anil)) (acons (tupD (acons (cst (.int 2)) (acons (cst (.int 1)) anil))) (acons (tupD (acons (cst (.int 0)) (acons (cst (.int 2)) anil))) (acons (tupD (acons (cst (.int 1)) (acons (cst (.int 2)) anil))) (acons (tupD (acons (cst (.int 0)) (acons (cst (.int 0)) anil))) (acons (tupD (acons (cst (.int 0)) (acons (cst (.int 3)) anil))) (acons (tupD (acons (cst (.int 3)) (acons (cst (.int 0)) anil))) anil))))))))))))))))
    (sseq (asg 2 [] (cal f_law_play (acons (var 0) (acons (cst (.int 4)) (acons (bi2 dIx (var 1) (bi2 dMod (bi2 dIx (var 0) (cst (.int 12))) (cst (.int 19)))) anil)))))
    (sseq (sif [] (tand (asB (bi2 dGt (cal dLen (acons (bi2 dIx (var 2) (cst (.int 1))) anil)) (cst (.int 1)))) (tand (asB (bi2 dGt (cal dMinS (acons (bi2 dIx (var 2) (cst (.int 1))) anil)) (cst (.int 0)))) (asB (bi2 dGt (bi2 dMod (bi2 dDiv (bi2 dIx (var 0) (cst (.int 12))) (cst (.int 19))) (cst (.int 8))) (cst (.int 0))))))
      (asg 2 [] (tupD (acons (slc (bi2 dIx (var 2) (cst (.int 0))) onone (osome (cst (.int 3)))) (acons (tupD (acons (cst (.int 1)) (acons (cst (.int 1)) anil))) anil))))
      snext)
    (ret [] (var 2))))))
def f_law_small_play (ds : List D) : Rv D := (m_law_small_play (entry 2 ds)).fin
theorem c_law_small_play : FnScope ["some", "tries", "play"] ["some"] (defScope s_law_small_play) := ⟨rfl, rfl, rfl, by decide +kernel, rfl, by decide +kernel, by decide +kernel⟩
theorem d_law_small_play {T : Wd} (l_law_play : Lk T 1 "_law_play" 3 f_law_play) (m_min : T.mg "min" = none) (m_len : T.mg "len" = none) (E : XK) : SemSs ⟨T, 1, ["some", "tries", "play"], defScope s_law_small_play, wAll E, true, fun _ => true, 0⟩ (defBody s_law_small_play) m_law_small_play :=
  (sss_cons (ss_set (i := 1) [] (SemF.e (sf_lst (sa_cons (se_tup sa_nil) (sa_cons (se_tup (sa_cons se_int sa_nil)) (sa_cons (se_tup (sa_cons se_int sa_nil)) (sa_cons (se_tup (sa_cons se_int (sa_cons se_int sa_nil))) (sa_cons (se_tup (sa_cons se_int sa_nil)) (sa_cons (se_tup (sa_cons se_int (sa_cons se_int sa_nil))) (sa_cons (se_tup (sa_cons se_int sa_nil)) (sa_cons (se_tup (sa_cons se_int (sa_cons se_int sa_nil))) sa_nil)))))))))))
    (sss_cons (ss_set (i := 1) [] (SemF.e (sf_add (se_var 1) (SemF.e (sf_lst (sa_cons (se_tup (sa_cons se_int (sa_cons se_int sa_nil))) (sa_cons (se_tup (sa_cons se_int sa_nil)) (sa_cons (se_tup (sa_cons se_int (sa_cons se_int sa_nil))) (sa_cons (se_tup (sa_cons se_int (sa_cons se_int sa_nil))) (sa_cons (se_tup (sa_cons se_int sa_nil)) (sa_cons (se_tup (sa_cons se_int (sa_cons se_int sa_nil))) (sa_cons (se_tup (sa_cons se_int (sa_cons se_int sa_nil))) (sa_cons (se_tup (sa_cons se_int (sa_cons se_int sa_nil))) (sa_cons (se_tup (sa_cons se_int (sa_cons se_int sa_nil))) (sa_cons (se_tup (sa_cons se_int (sa_cons se_int sa_nil))) (sa_cons (se_tup (sa_cons se_int (sa_cons se_int sa_nil))) sa_nil))))))))))))))))
    (sss_cons (ss_set (i := 2) [] (se_call l_law_play (sa_cons (se_var 0) (sa_cons se_int (sa_cons (se_ix (se_var 1) (se_mod (se_ix (se_var 0) se_int) se_int)) sa_nil))) (acons_len (acons_len (acons_len anil_len)))))
    (sss_cons (ss_if [] (st_w (sw_and (st_gt (se_callB (fun X hX => hX.hK ▸ call_lenA) on_len m_len PySem.boot_len (sa_cons (se_ix (se_var 2) se_int) sa_nil)) se_int) (sw_and (st_gt (se_callB (fun X hX => hX.hK ▸ call_minA hX.calm) on_minS m_min (by decide +kernel) (sa_cons (se_ix (se_var 2) se_int) sa_nil)) se_int) (sw_and1 (st_gt (se_mod (se_div (se_ix (se_var 0) se_int) se_int) se_int) se_int)))))
      (sss_one (ss_set (i := 2) [] (se_tup (sa_cons (se_slice (se_ix (se_var 2) se_int) so_none (so_some se_int)) (sa_cons (se_tup (sa_cons se_int (sa_cons se_int sa_nil))) sa_nil)))))
      sss_nil)
    (sss_one (ss_ret [] (se_var 2)))))))
theorem k_law_small_play {T : Wd} (l_law_play : Lk T 1 "_law_play" 3 f_law_play) (m_min : T.mg "min" = none) (m_len : T.mg "len" = none) {f : Addr} {fd : FuncData} (F : Fun T.K "_law_small_play" "_law_small_play" s_law_small_play f fd) (g : T.mg "_law_small_play" = some (.ref f)) : Lk T 2 "_law_small_play" 1 f_law_small_play :=
  ⟨f, fd, ["some"], (fnG_of (tr := 0) F c_law_small_play rfl rfl (d_law_small_play l_law_play m_min m_len)).weak rfl, g, F.kp, F.binds fun _ _ _ _ _ _ us hl => match us, hl with | [_], _ => rfl⟩

/-! law -/
abbrev s_law : Stmt := top 30
def m_law : Env' → Res :=
  (sseq (sforR rng1 [] (bName 1) (acons (cst (.int 2)) anil)
      (sseq (asg 2 [] (cal f_law_digits (acons (cal f_law_at (acons (var 0) (acons (var 1) anil))) (acons (cst (.int 30)) anil))))
      (sseq (asg 3 [] (cal f_law_small_play (acons (var 2) anil)))
      (sseq (sif [] (asB (bi2 dEq (var 1) (cst (.int 1))))
        (asg 3 [] (tupD (acons (bi2 dIx (var 3) (cst (.int 0))) (acons (slc (bi2 dIx (var 3) (cst (.int 1))) onone (osome (cst (.int 1)))) anil))))
        snext)
      (sseq (untup [4, 5] [] (cal f_law_all (acons (var 3) (acons (cst (.str "good")) anil))))
      (sseq (asgDN 6 0)
      (sseq (sfor [] (bName 7) (var 5)
        (dput 6 [] (cal dRepr (acons (cal f_law_told_by (acons (var 7) anil)) anil)) (cst (.bool true))))
      (sseq (asg 8 [6] (lstD (calF dSortedA (acons (var 6) anil))))
      (sforR rng1 [] (bName 9) (acons (bi2 dSub (cst (.int 2)) (cal dInt (acons (bi2 dGt (cal dLenD (acons (var 4) anil)) (cst (.int 1000))) anil))) anil)
        (sseq (asgX 10 3 [] (cal f_endings (acons (var 3) anil)))
        (sseq (sif [10] (tor (tnot (asB (isi "list" (var 10)))) (asB (bi2 dNe (lstD (cmp [14] (vName 14) yes (cal dRepr (acons (var 14) anil)) (srcE (var 10)))) (var 8))))
          (ret [] (cst (.bool false)))
          snext)
        (sseq (asg 11 [10] (bi2 dMod (bi2 dIx (var 2) (cst (.int 13))) (cal dLen (acons (var 10) anil))))
        (sseq (alA 12 10 [10] (pai (pai (pai pav (var 11)) (cst (.int 0))) (bi2 dMod (bi2 dIx (var 2) (cst (.int 14))) (cal dLen (acons (bi2 dIx (bi2 dIx (var 10) (var 11)) (cst (.int 0))) anil))))
        (apA 12 10 [10] (cst (.str "x"))))
        (sseq (appP 10 (pai (pai pav (var 11)) (cst (.int 1))) (cst (.str "y")))
        (sseq (letIf 13 [10] (bi2 dAdd (slc (var 10) onone (osome (var 11))) (slc (var 10) (osome (bi2 dAdd (var 11) (cst (.int 1)))) onone))
        (asB (bi2 dNe (lstD (cmp [14] (vName 14) yes (cal dRepr (acons (var 14) anil)) (srcE (var 13)))) (bi2 dAdd (slc (var 8) onone (osome (var 11))) (slc (var 8) (osome (bi2 dAdd (var 11) (cst (.int 1)))) onone))))
        (ret [] (cst (.bool false))))
        (sseq (sif [10] (tor (asB (bi2 dNe (cntM (cal dRepr (acons (bi2 dIx (bi2 dIx (var 10) (var 11)) (cst (.int 0))) anil)) (cst (.str "x"))) (cst (.int 1)))) (asB (bi2 dNe (cntM (cal dRepr (acons (bi2 dIx (var 10) (var 11)) anil)) (cst (.str "y"))) (cst (.int 1)))))
          (ret [] (cst (.bool false)))
          snext)
        (sseq (clrEach 14 10)
        (clrA 10))))))))))))))))))
    (ret [] (bi2 dEq (cal f_endings (acons (tupD (acons (tupD anil) (acons (tupD anil) anil))) anil)) (lstD (lstF (acons (tupD (acons (lstD (lstF (acons (lstD (lstF anil)) anil))) (acons (lstD (lstF anil)) anil))) anil))))))
def f_law (ds : List D) : Rv D := (m_law (entry 14 ds)).fin
theorem c_law : FnScope ["script", "k", "some", "play", "met", "last", "found", "state", "due", "turn", "told", "at", "row", "others", "ending"] ["script"] (defScope s_law) := ⟨rfl, rfl, rfl, by decide +kernel, rfl, by decide +kernel, by decide +kernel⟩
theorem d_law {T : Wd} (l_law_digits : Lk T 2 "_law_digits" 2 f_law_digits) (l_law_at : Lk T 1 "_law_at" 2 f_law_at) (l_law_small_play : Lk T 2 "_law_small_play" 1 f_law_small_play) (l_law_all : Lk T 3 "_law_all" 2 f_law_all) (l_law_told_by : Lk T 1 "_law_told_by" 1 f_law_told_by) (l_endings : LkT T 6 "endings" 1 3 f_endings) (m_repr : T.mg "repr" = none) (m_sorted : T.mg "sorted" = none) (m_isinstance : T.mg "isinstance" = none) (m_list : T.mg "list" = none) (m_len : T.mg "len" = none) (m_int : T.mg "int" = none) (m_range : T.mg "range" = none) (E : XK) : SemSs ⟨T, 6, ["script", "k", "some", "play", "met", "last", "found", "state", "due", "turn", "told", "at", "row", "others", "ending"], defScope s_law, wAll E, true, fun _ => true, 0⟩ (defBody s_law) m_law :=
  (sss_cons (ss_forR1 [] m_range (tg_name 1) (sa_cons se_int sa_nil)
      (sss_cons (ss_set (i := 2) [] (se_call l_law_digits (sa_cons (se_call l_law_at (sa_cons (se_var 0) (sa_cons (se_var 1) sa_nil)) (acons_len (acons_len anil_len))) (sa_cons se_int sa_nil)) (acons_len (acons_len anil_len))))
      (sss_cons (ss_set (i := 3) [] (se_call l_law_small_play (sa_cons (se_var 2) sa_nil) (acons_len anil_len)))
      (sss_cons (ss_if [] (st_eq (se_var 1) se_int)
        (sss_one (ss_set (i := 3) [] (se_tup (sa_cons (se_ix (se_var 3) se_int) (sa_cons (se_slice (se_ix (se_var 3) se_int) so_none (so_some se_int)) sa_nil)))))
        sss_nil)
      (sss_cons (ss_untup [] (sg_cons 4 (sg_cons 5 sg_nil)) (se_call l_law_all (sa_cons (se_var 3) (sa_cons se_str sa_nil)) (acons_len (acons_len anil_len))))
      (sss_cons (ss_dnewK (i := 6))
      (sss_cons (ss_for [] (tg_name 7) (se_var 5)
        (sss_one (ss_dput (j := 6) [] (se_callB call_reprX on_repr m_repr (by decide +kernel) (sa_cons (se_call l_law_told_by (sa_cons (se_var 7) sa_nil) (acons_len anil_len)) sa_nil)) se_bl)))
      (sss_cons (ss_set (i := 8) [6] (SemF.e (sf_callB (fun X hX => hX.hK ▸ call_sortedA hX.calm) on_sortedA m_sorted (by decide +kernel) (sa_cons (se_var 6) sa_nil))))
      (sss_one (ss_forR1 [] m_range (tg_name 9) (sa_cons (se_sub se_int (se_callTy (fun _ _ => call_int1) on_int m_int (by decide +kernel) (sa_cons (se_gt (se_callB (fun X hX => At.cz hX ▸ call_lenN) on_lenN m_len PySem.boot_len (sa_cons (se_var 4) sa_nil)) se_int) sa_nil))) sa_nil)
        (sss_cons (ss_setX (i := 10) (n := 3) [] (sx_call l_endings (sa_cons (se_var 3) sa_nil) (acons_len anil_len)))
        (sss_cons (ss_if [10] (st_w (sw_or (st_not (st_val (se_isi m_isinstance m_list (by decide +kernel) (se_var 10)))) (sw_or1 (st_ne (SemF.e (SemC.f (sc_list [("ending", 14)] [14] (se_var 10) (by show blkC ["script", "k", "some", "play", "met", "last", "found", "state", "due", "turn", "told", "at", "row", "others", "ending"] (defScope s_law) _ _ = true; decide +kernel) (tv_name 14) sp_nil (sx_e (se_callB call_reprX on_repr m_repr (by decide +kernel) (sa_cons (se_var 14) sa_nil)))))) (se_var 8)))))
          (sss_one (ss_ret [] se_bl))
          sss_nil)
        (sss_cons (ss_set (i := 11) [10] (se_mod (se_ix (se_var 2) se_int) (se_callB (fun X hX => hX.hK ▸ call_lenA) on_len m_len PySem.boot_len (sa_cons (se_var 10) sa_nil))))
        (sss_alias (r := 12) (j := 10) [10] (spb_ix (spb_ix (spb_ix (spb_var 10) (se_var 11)) se_int) (se_mod (se_ix (se_var 2) se_int) (se_callB (fun X hX => hX.hK ▸ call_lenA) on_len m_len PySem.boot_len (sa_cons (se_ix (se_ix (se_var 10) (se_var 11)) se_int) sa_nil))))
        (sal_app [10] se_str)
        (sss_cons (ss_appP (j := 10) (spa_ix (spa_ix (spa_var 10) (se_var 11)) se_int) se_str)
        (sss_letIf (r := 13) [10] (se_add (se_slice (se_var 10) so_none (so_some (se_var 11))) (se_slice (se_var 10) (so_some (se_add (se_var 11) se_int)) so_none))
        (st_ne (SemF.e (SemC.f (sc_list [("ending", 14)] [14] (se_var 13) (by show blkC ["script", "k", "some", "play", "met", "last", "found", "state", "due", "turn", "told", "at", "row", "others", "ending"] (defScope s_law) _ _ = true; decide +kernel) (tv_name 14) sp_nil (sx_e (se_callB call_reprX on_repr m_repr (by decide +kernel) (sa_cons (se_var 14) sa_nil)))))) (se_add (se_slice (se_var 8) so_none (so_some (se_var 11))) (se_slice (se_var 8) (so_some (se_add (se_var 11) se_int)) so_none)))
        (sss_one (ss_ret [] se_bl))
        (sss_cons (ss_if [10] (st_w (sw_or (st_ne (se_count (se_callB call_reprX on_repr m_repr (by decide +kernel) (sa_cons (se_ix (se_ix (se_var 10) (se_var 11)) se_int) sa_nil)) se_str) se_int) (sw_or1 (st_ne (se_count (se_callB call_reprX on_repr m_repr (by decide +kernel) (sa_cons (se_ix (se_var 10) (se_var 11)) sa_nil)) se_str) se_int))))
          (sss_one (ss_ret [] se_bl))
          sss_nil)
        (sss_cons (ss_clrEach (r := 14) (j := 10))
        (sss_one (ss_clr (j := 10)))))))))))))))))))))
    (sss_one (ss_ret [] (se_eq (se_call l_endings.lk (sa_cons (se_tup (sa_cons (se_tup sa_nil) (sa_cons (se_tup sa_nil) sa_nil))) sa_nil) (acons_len anil_len)) (SemF.e (sf_lst (sa_cons (se_tup (sa_cons (SemF.e (sf_lst (sa_cons (SemF.e (sf_lst sa_nil)) sa_nil))) (sa_cons (SemF.e (sf_lst sa_nil)) sa_nil))) sa_nil)))))))
theorem k_law {T : Wd} (l_law_digits : Lk T 2 "_law_digits" 2 f_law_digits) (l_law_at : Lk T 1 "_law_at" 2 f_law_at) (l_law_small_play : Lk T 2 "_law_small_play" 1 f_law_small_play) (l_law_all : Lk T 3 "_law_all" 2 f_law_all) (l_law_told_by : Lk T 1 "_law_told_by" 1 f_law_told_by) (l_endings : LkT T 6 "endings" 1 3 f_endings) (m_repr : T.mg "repr" = none) (m_sorted : T.mg "sorted" = none) (m_isinstance : T.mg "isinstance" = none) (m_list : T.mg "list" = none) (m_len : T.mg "len" = none) (m_int : T.mg "int" = none) (m_range : T.mg "range" = none) {f : Addr} {fd : FuncData} (F : Fun T.K "law" "law" s_law f fd) (g : T.mg "law" = some (.ref f)) : Lk T 7 "law" 1 f_law :=
  ⟨f, fd, ["script"], (fnG_of (tr := 0) F c_law rfl rfl (d_law l_law_digits l_law_at l_law_small_play l_law_all l_law_told_by l_endings m_repr m_sorted m_isinstance m_list m_len m_int m_range)).weak rfl, g, F.kp, F.binds fun _ _ _ _ _ _ us hl => match us, hl with | [_], _ => rfl⟩

set_option maxHeartbeats 4000000 in
theorem all_mk {P : Program} {w : World} {K : PySem.W.Frag} {mg : Str → Option Value} {h base : Heap} (X : K.In h) (G : h.Ns mainGlobals mg)
    {g_first_state : Addr} {od_first_state an_first_state : Option Addr} {sl_first_state : Array (Option Value)} {oc_first_state kV_first_state dc_first_state pm_first_state cd_first_state ct_first_state : Value} (a_first_state : PySem.W.nsIn K mainGlobals "first_state" = some (some (.ref g_first_state))) (l_first_state : K.lookup g_first_state = some ⟨oc_first_state, od_first_state, .func (PySem.W.fnOf "first_state" "first_state" (defArgs s_first_state) (defBody s_first_state) (defScope s_first_state) .none kV_first_state dc_first_state pm_first_state an_first_state cd_first_state ct_first_state), sl_first_state⟩) (c_first_state : PySem.W.codeIn K cd_first_state "first_state" = true) (k_first_state : PySem.W.keepIn K (.ref g_first_state) = true)
    {g_ended : Addr} {od_ended an_ended : Option Addr} {sl_ended : Array (Option Value)} {oc_ended kV_ended dc_ended pm_ended cd_ended ct_ended : Value} (a_ended : PySem.W.nsIn K mainGlobals "ended" = some (some (.ref g_ended))) (l_ended : K.lookup g_ended = some ⟨oc_ended, od_ended, .func (PySem.W.fnOf "ended" "ended" (defArgs s_ended) (defBody s_ended) (defScope s_ended) .none kV_ended dc_ended pm_ended an_ended cd_ended ct_ended), sl_ended⟩) (c_ended : PySem.W.codeIn K cd_ended "ended" = true) (k_ended : PySem.W.keepIn K (.ref g_ended) = true)
    {g_lay : Addr} {od_lay an_lay : Option Addr} {sl_lay : Array (Option Value)} {oc_lay kV_lay dc_lay pm_lay cd_lay ct_lay : Value} (a_lay : PySem.W.nsIn K mainGlobals "lay" = some (some (.ref g_lay))) (l_lay : K.lookup g_lay = some ⟨oc_lay, od_lay, .func (PySem.W.fnOf "lay" "lay" (defArgs s_lay) (defBody s_lay) (defScope s_lay) .none kV_lay dc_lay pm_lay an_lay cd_lay ct_lay), sl_lay⟩) (c_lay : PySem.W.codeIn K cd_lay "lay" = true) (k_lay : PySem.W.keepIn K (.ref g_lay) = true)
    {g_take : Addr} {od_take an_take : Option Addr} {sl_take : Array (Option Value)} {oc_take kV_take dc_take pm_take cd_take ct_take : Value} (a_take : PySem.W.nsIn K mainGlobals "take" = some (some (.ref g_take))) (l_take : K.lookup g_take = some ⟨oc_take, od_take, .func (PySem.W.fnOf "take" "take" (defArgs s_take) (defBody s_take) (defScope s_take) .none kV_take dc_take pm_take an_take cd_take ct_take), sl_take⟩) (c_take : PySem.W.codeIn K cd_take "take" = true) (k_take : PySem.W.keepIn K (.ref g_take) = true)
    {g_attempt : Addr} {od_attempt an_attempt : Option Addr} {sl_attempt : Array (Option Value)} {oc_attempt kV_attempt dc_attempt pm_attempt cd_attempt ct_attempt : Value} (a_attempt : PySem.W.nsIn K mainGlobals "attempt" = some (some (.ref g_attempt))) (l_attempt : K.lookup g_attempt = some ⟨oc_attempt, od_attempt, .func (PySem.W.fnOf "attempt" "attempt" (defArgs s_attempt) (defBody s_attempt) (defScope s_attempt) .none kV_attempt dc_attempt pm_attempt an_attempt cd_attempt ct_attempt), sl_attempt⟩) (c_attempt : PySem.W.codeIn K cd_attempt "attempt" = true) (k_attempt : PySem.W.keepIn K (.ref g_attempt) = true)
    {g_moved : Addr} {od_moved an_moved : Option Addr} {sl_moved : Array (Option Value)} {oc_moved kV_moved dc_moved pm_moved cd_moved ct_moved : Value} (a_moved : PySem.W.nsIn K mainGlobals "moved" = some (some (.ref g_moved))) (l_moved : K.lookup g_moved = some ⟨oc_moved, od_moved, .func (PySem.W.fnOf "moved" "moved" (defArgs s_moved) (defBody s_moved) (defScope s_moved) .none kV_moved dc_moved pm_moved an_moved cd_moved ct_moved), sl_moved⟩) (c_moved : PySem.W.codeIn K cd_moved "moved" = true) (k_moved : PySem.W.keepIn K (.ref g_moved) = true)
    {g_told_by : Addr} {od_told_by an_told_by : Option Addr} {sl_told_by : Array (Option Value)} {oc_told_by kV_told_by dc_told_by pm_told_by cd_told_by ct_told_by : Value} (a_told_by : PySem.W.nsIn K mainGlobals "told_by" = some (some (.ref g_told_by))) (l_told_by : K.lookup g_told_by = some ⟨oc_told_by, od_told_by, .func (PySem.W.fnOf "told_by" "told_by" (defArgs s_told_by) (defBody s_told_by) (defScope s_told_by) .none kV_told_by dc_told_by pm_told_by an_told_by cd_told_by ct_told_by), sl_told_by⟩) (c_told_by : PySem.W.codeIn K cd_told_by "told_by" = true) (k_told_by : PySem.W.keepIn K (.ref g_told_by) = true)
    {g_need_size : Addr} {od_need_size an_need_size : Option Addr} {sl_need_size : Array (Option Value)} {oc_need_size kV_need_size dc_need_size pm_need_size cd_need_size ct_need_size : Value} (a_need_size : PySem.W.nsIn K mainGlobals "need_size" = some (some (.ref g_need_size))) (l_need_size : K.lookup g_need_size = some ⟨oc_need_size, od_need_size, .func (PySem.W.fnOf "need_size" "need_size" (defArgs s_need_size) (defBody s_need_size) (defScope s_need_size) .none kV_need_size dc_need_size pm_need_size an_need_size cd_need_size ct_need_size), sl_need_size⟩) (c_need_size : PySem.W.codeIn K cd_need_size "need_size" = true) (k_need_size : PySem.W.keepIn K (.ref g_need_size) = true)
    {g_steps_from : Addr} {od_steps_from an_steps_from : Option Addr} {sl_steps_from : Array (Option Value)} {oc_steps_from kV_steps_from dc_steps_from pm_steps_from cd_steps_from ct_steps_from : Value} (a_steps_from : PySem.W.nsIn K mainGlobals "steps_from" = some (some (.ref g_steps_from))) (l_steps_from : K.lookup g_steps_from = some ⟨oc_steps_from, od_steps_from, .func (PySem.W.fnOf "steps_from" "steps_from" (defArgs s_steps_from) (defBody s_steps_from) (defScope s_steps_from) .none kV_steps_from dc_steps_from pm_steps_from an_steps_from cd_steps_from ct_steps_from), sl_steps_from⟩) (c_steps_from : PySem.W.codeIn K cd_steps_from "steps_from" = true) (k_steps_from : PySem.W.keepIn K (.ref g_steps_from) = true)
    {g_gone_through : Addr} {od_gone_through an_gone_through : Option Addr} {sl_gone_through : Array (Option Value)} {oc_gone_through kV_gone_through dc_gone_through pm_gone_through cd_gone_through ct_gone_through : Value} (a_gone_through : PySem.W.nsIn K mainGlobals "gone_through" = some (some (.ref g_gone_through))) (l_gone_through : K.lookup g_gone_through = some ⟨oc_gone_through, od_gone_through, .func (PySem.W.fnOf "gone_through" "gone_through" (defArgs s_gone_through) (defBody s_gone_through) (defScope s_gone_through) .none kV_gone_through dc_gone_through pm_gone_through an_gone_through cd_gone_through ct_gone_through), sl_gone_through⟩) (c_gone_through : PySem.W.codeIn K cd_gone_through "gone_through" = true) (k_gone_through : PySem.W.keepIn K (.ref g_gone_through) = true)
    {g_endings : Addr} {od_endings an_endings : Option Addr} {sl_endings : Array (Option Value)} {oc_endings kV_endings dc_endings pm_endings cd_endings ct_endings : Value} (a_endings : PySem.W.nsIn K mainGlobals "endings" = some (some (.ref g_endings))) (l_endings : K.lookup g_endings = some ⟨oc_endings, od_endings, .func (PySem.W.fnOf "endings" "endings" (defArgs s_endings) (defBody s_endings) (defScope s_endings) .none kV_endings dc_endings pm_endings an_endings cd_endings ct_endings), sl_endings⟩) (c_endings : PySem.W.codeIn K cd_endings "endings" = true) (k_endings : PySem.W.keepIn K (.ref g_endings) = true)
    {g_law_mix : Addr} {od_law_mix an_law_mix : Option Addr} {sl_law_mix : Array (Option Value)} {oc_law_mix kV_law_mix dc_law_mix pm_law_mix cd_law_mix ct_law_mix : Value} (a_law_mix : PySem.W.nsIn K mainGlobals "_law_mix" = some (some (.ref g_law_mix))) (l_law_mix : K.lookup g_law_mix = some ⟨oc_law_mix, od_law_mix, .func (PySem.W.fnOf "_law_mix" "_law_mix" (defArgs s_law_mix) (defBody s_law_mix) (defScope s_law_mix) .none kV_law_mix dc_law_mix pm_law_mix an_law_mix cd_law_mix ct_law_mix), sl_law_mix⟩) (c_law_mix : PySem.W.codeIn K cd_law_mix "_law_mix" = true) (k_law_mix : PySem.W.keepIn K (.ref g_law_mix) = true)
    {g_law_digits : Addr} {od_law_digits an_law_digits : Option Addr} {sl_law_digits : Array (Option Value)} {oc_law_digits kV_law_digits dc_law_digits pm_law_digits cd_law_digits ct_law_digits : Value} (a_law_digits : PySem.W.nsIn K mainGlobals "_law_digits" = some (some (.ref g_law_digits))) (l_law_digits : K.lookup g_law_digits = some ⟨oc_law_digits, od_law_digits, .func (PySem.W.fnOf "_law_digits" "_law_digits" (defArgs s_law_digits) (defBody s_law_digits) (defScope s_law_digits) .none kV_law_digits dc_law_digits pm_law_digits an_law_digits cd_law_digits ct_law_digits), sl_law_digits⟩) (c_law_digits : PySem.W.codeIn K cd_law_digits "_law_digits" = true) (k_law_digits : PySem.W.keepIn K (.ref g_law_digits) = true)
    {g_law_at : Addr} {od_law_at an_law_at : Option Addr} {sl_law_at : Array (Option Value)} {oc_law_at kV_law_at dc_law_at pm_law_at cd_law_at ct_law_at : Value} (a_law_at : PySem.W.nsIn K mainGlobals "_law_at" = some (some (.ref g_law_at))) (l_law_at : K.lookup g_law_at = some ⟨oc_law_at, od_law_at, .func (PySem.W.fnOf "_law_at" "_law_at" (defArgs s_law_at) (defBody s_law_at) (defScope s_law_at) .none kV_law_at dc_law_at pm_law_at an_law_at cd_law_at ct_law_at), sl_law_at⟩) (c_law_at : PySem.W.codeIn K cd_law_at "_law_at" = true) (k_law_at : PySem.W.keepIn K (.ref g_law_at) = true)
    {g_law_first : Addr} {od_law_first an_law_first : Option Addr} {sl_law_first : Array (Option Value)} {oc_law_first kV_law_first dc_law_first pm_law_first cd_law_first ct_law_first : Value} (a_law_first : PySem.W.nsIn K mainGlobals "_law_first" = some (some (.ref g_law_first))) (l_law_first : K.lookup g_law_first = some ⟨oc_law_first, od_law_first, .func (PySem.W.fnOf "_law_first" "_law_first" (defArgs s_law_first) (defBody s_law_first) (defScope s_law_first) .none kV_law_first dc_law_first pm_law_first an_law_first cd_law_first ct_law_first), sl_law_first⟩) (c_law_first : PySem.W.codeIn K cd_law_first "_law_first" = true) (k_law_first : PySem.W.keepIn K (.ref g_law_first) = true)
    {g_law_take_part : Addr} {od_law_take_part an_law_take_part : Option Addr} {sl_law_take_part : Array (Option Value)} {oc_law_take_part kV_law_take_part dc_law_take_part pm_law_take_part cd_law_take_part ct_law_take_part : Value} (a_law_take_part : PySem.W.nsIn K mainGlobals "_law_take_part" = some (some (.ref g_law_take_part))) (l_law_take_part : K.lookup g_law_take_part = some ⟨oc_law_take_part, od_law_take_part, .func (PySem.W.fnOf "_law_take_part" "_law_take_part" (defArgs s_law_take_part) (defBody s_law_take_part) (defScope s_law_take_part) .none kV_law_take_part dc_law_take_part pm_law_take_part an_law_take_part cd_law_take_part ct_law_take_part), sl_law_take_part⟩) (c_law_take_part : PySem.W.codeIn K cd_law_take_part "_law_take_part" = true) (k_law_take_part : PySem.W.keepIn K (.ref g_law_take_part) = true)
    {g_law_try_part : Addr} {od_law_try_part an_law_try_part : Option Addr} {sl_law_try_part : Array (Option Value)} {oc_law_try_part kV_law_try_part dc_law_try_part pm_law_try_part cd_law_try_part ct_law_try_part : Value} (a_law_try_part : PySem.W.nsIn K mainGlobals "_law_try_part" = some (some (.ref g_law_try_part))) (l_law_try_part : K.lookup g_law_try_part = some ⟨oc_law_try_part, od_law_try_part, .func (PySem.W.fnOf "_law_try_part" "_law_try_part" (defArgs s_law_try_part) (defBody s_law_try_part) (defScope s_law_try_part) .none kV_law_try_part dc_law_try_part pm_law_try_part an_law_try_part cd_law_try_part ct_law_try_part), sl_law_try_part⟩) (c_law_try_part : PySem.W.codeIn K cd_law_try_part "_law_try_part" = true) (k_law_try_part : PySem.W.keepIn K (.ref g_law_try_part) = true)
    {g_law_small_step : Addr} {od_law_small_step an_law_small_step : Option Addr} {sl_law_small_step : Array (Option Value)} {oc_law_small_step kV_law_small_step dc_law_small_step pm_law_small_step cd_law_small_step ct_law_small_step : Value} (a_law_small_step : PySem.W.nsIn K mainGlobals "_law_small_step" = some (some (.ref g_law_small_step))) (l_law_small_step : K.lookup g_law_small_step = some ⟨oc_law_small_step, od_law_small_step, .func (PySem.W.fnOf "_law_small_step" "_law_small_step" (defArgs s_law_small_step) (defBody s_law_small_step) (defScope s_law_small_step) .none kV_law_small_step dc_law_small_step pm_law_small_step an_law_small_step cd_law_small_step ct_law_small_step), sl_law_small_step⟩) (c_law_small_step : PySem.W.codeIn K cd_law_small_step "_law_small_step" = true) (k_law_small_step : PySem.W.keepIn K (.ref g_law_small_step) = true)
    {g_law_told_by : Addr} {od_law_told_by an_law_told_by : Option Addr} {sl_law_told_by : Array (Option Value)} {oc_law_told_by kV_law_told_by dc_law_told_by pm_law_told_by cd_law_told_by ct_law_told_by : Value} (a_law_told_by : PySem.W.nsIn K mainGlobals "_law_told_by" = some (some (.ref g_law_told_by))) (l_law_told_by : K.lookup g_law_told_by = some ⟨oc_law_told_by, od_law_told_by, .func (PySem.W.fnOf "_law_told_by" "_law_told_by" (defArgs s_law_told_by) (defBody s_law_told_by) (defScope s_law_told_by) .none kV_law_told_by dc_law_told_by pm_law_told_by an_law_told_by cd_law_told_by ct_law_told_by), sl_law_told_by⟩) (c_law_told_by : PySem.W.codeIn K cd_law_told_by "_law_told_by" = true) (k_law_told_by : PySem.W.keepIn K (.ref g_law_told_by) = true)
    {g_law_play : Addr} {od_law_play an_law_play : Option Addr} {sl_law_play : Array (Option Value)} {oc_law_play kV_law_play dc_law_play pm_law_play cd_law_play ct_law_play : Value} (a_law_play : PySem.W.nsIn K mainGlobals "_law_play" = some (some (.ref g_law_play))) (l_law_play : K.lookup g_law_play = some ⟨oc_law_play, od_law_play, .func (PySem.W.fnOf "_law_play" "_law_play" (defArgs s_law_play) (defBody s_law_play) (defScope s_law_play) .none kV_law_play dc_law_play pm_law_play an_law_play cd_law_play ct_law_play), sl_law_play⟩) (c_law_play : PySem.W.codeIn K cd_law_play "_law_play" = true) (k_law_play : PySem.W.keepIn K (.ref g_law_play) = true)
    {g_law_all : Addr} {od_law_all an_law_all : Option Addr} {sl_law_all : Array (Option Value)} {oc_law_all kV_law_all dc_law_all pm_law_all cd_law_all ct_law_all : Value} (a_law_all : PySem.W.nsIn K mainGlobals "_law_all" = some (some (.ref g_law_all))) (l_law_all : K.lookup g_law_all = some ⟨oc_law_all, od_law_all, .func (PySem.W.fnOf "_law_all" "_law_all" (defArgs s_law_all) (defBody s_law_all) (defScope s_law_all) .none kV_law_all dc_law_all pm_law_all an_law_all cd_law_all ct_law_all), sl_law_all⟩) (c_law_all : PySem.W.codeIn K cd_law_all "_law_all" = true) (k_law_all : PySem.W.keepIn K (.ref g_law_all) = true)
    {g_law_small_play : Addr} {od_law_small_play an_law_small_play : Option Addr} {sl_law_small_play : Array (Option Value)} {oc_law_small_play kV_law_small_play dc_law_small_play pm_law_small_play cd_law_small_play ct_law_small_play : Value} (a_law_small_play : PySem.W.nsIn K mainGlobals "_law_small_play" = some (some (.ref g_law_small_play))) (l_law_small_play : K.lookup g_law_small_play = some ⟨oc_law_small_play, od_law_small_play, .func (PySem.W.fnOf "_law_small_play" "_law_small_play" (defArgs s_law_small_play) (defBody s_law_small_play) (defScope s_law_small_play) .none kV_law_small_play dc_law_small_play pm_law_small_play an_law_small_play cd_law_small_play ct_law_small_play), sl_law_small_play⟩) (c_law_small_play : PySem.W.codeIn K cd_law_small_play "_law_small_play" = true) (k_law_small_play : PySem.W.keepIn K (.ref g_law_small_play) = true)
    {g_law : Addr} {od_law an_law : Option Addr} {sl_law : Array (Option Value)} {oc_law kV_law dc_law pm_law cd_law ct_law : Value} (a_law : PySem.W.nsIn K mainGlobals "law" = some (some (.ref g_law))) (l_law : K.lookup g_law = some ⟨oc_law, od_law, .func (PySem.W.fnOf "law" "law" (defArgs s_law) (defBody s_law) (defScope s_law) .none kV_law dc_law pm_law an_law cd_law ct_law), sl_law⟩) (c_law : PySem.W.codeIn K cd_law "law" = true) (k_law : PySem.W.keepIn K (.ref g_law) = true)
    {t_MOST_DEEDS : Tok} (gn_MOST_DEEDS : PySem.W.nsIn K mainGlobals "MOST_DEEDS" = some (some (.int 4 t_MOST_DEEDS)))
    {t_MOST_TRIES : Tok} (gn_MOST_TRIES : PySem.W.nsIn K mainGlobals "MOST_TRIES" = some (some (.int 3 t_MOST_TRIES)))
    (z_len : PySem.W.nsIn K mainGlobals "len" = some none)
    (z_list : PySem.W.nsIn K mainGlobals "list" = some none)
    (z_max : PySem.W.nsIn K mainGlobals "max" = some none)
    (z_sum : PySem.W.nsIn K mainGlobals "sum" = some none)
    (z_range : PySem.W.nsIn K mainGlobals "range" = some none)
    (z_repr : PySem.W.nsIn K mainGlobals "repr" = some none)
    (z_sorted : PySem.W.nsIn K mainGlobals "sorted" = some none)
    (z_abs : PySem.W.nsIn K mainGlobals "abs" = some none)
    (z_int : PySem.W.nsIn K mainGlobals "int" = some none)
    (z_tuple : PySem.W.nsIn K mainGlobals "tuple" = some none)
    (z_min : PySem.W.nsIn K mainGlobals "min" = some none)
    (z_isinstance : PySem.W.nsIn K mainGlobals "isinstance" = some none) : Lk ⟨P, w, K, mg, base⟩ 7 "law" 1 f_law := by
  have m_len : mg "len" = none := PySem.W.mg_none_of X G z_len
  have m_list : mg "list" = none := PySem.W.mg_none_of X G z_list
  have m_max : mg "max" = none := PySem.W.mg_none_of X G z_max
  have m_sum : mg "sum" = none := PySem.W.mg_none_of X G z_sum
  have m_range : mg "range" = none := PySem.W.mg_none_of X G z_range
  have m_repr : mg "repr" = none := PySem.W.mg_none_of X G z_repr
  have m_sorted : mg "sorted" = none := PySem.W.mg_none_of X G z_sorted
  have m_abs : mg "abs" = none := PySem.W.mg_none_of X G z_abs
  have m_int : mg "int" = none := PySem.W.mg_none_of X G z_int
  have m_tuple : mg "tuple" = none := PySem.W.mg_none_of X G z_tuple
  have m_min : mg "min" = none := PySem.W.mg_none_of X G z_min
  have m_isinstance : mg "isinstance" = none := PySem.W.mg_none_of X G z_isinstance
  have gi_MOST_DEEDS : GInt (⟨P, w, K, mg, base⟩ : Wd) "MOST_DEEDS" 4 := ⟨_, PySem.W.mg_of X G gn_MOST_DEEDS⟩
  have gi_MOST_TRIES : GInt (⟨P, w, K, mg, base⟩ : Wd) "MOST_TRIES" 3 := ⟨_, PySem.W.mg_of X G gn_MOST_TRIES⟩
  have r_first_state : Lk ⟨P, w, K, mg, base⟩ 1 "first_state" 1 K51.f_first_state := K51.k_first_state (T := ⟨P, w, K, mg, base⟩) m_len (fun_mk (st := s_first_state) l_first_state c_first_state k_first_state) (PySem.W.mg_of X G a_first_state)
  have r_ended : Lk ⟨P, w, K, mg, base⟩ 1 "ended" 2 K51.f_ended := K51.k_ended (T := ⟨P, w, K, mg, base⟩) (fun_mk (st := s_ended) l_ended c_ended k_ended) (PySem.W.mg_of X G a_ended)
  have r_lay : Lk ⟨P, w, K, mg, base⟩ 1 "lay" 3 K51.f_lay := K51.k_lay (T := ⟨P, w, K, mg, base⟩) (fun_mk (st := s_lay) l_lay c_lay k_lay) (PySem.W.mg_of X G a_lay)
  have r_take : Lk ⟨P, w, K, mg, base⟩ 2 "take" 3 K51.f_take := K51.k_take (T := ⟨P, w, K, mg, base⟩) r_ended (fun_mk (st := s_take) l_take c_take k_take) (PySem.W.mg_of X G a_take)
  have r_attempt : Lk ⟨P, w, K, mg, base⟩ 2 "attempt" 3 K51.f_attempt := K51.k_attempt (T := ⟨P, w, K, mg, base⟩) r_ended (fun_mk (st := s_attempt) l_attempt c_attempt k_attempt) (PySem.W.mg_of X G a_attempt)
  have r_moved : Lk ⟨P, w, K, mg, base⟩ 3 "moved" 4 K51.f_moved := K51.k_moved (T := ⟨P, w, K, mg, base⟩) r_attempt r_lay r_take m_len (fun_mk (st := s_moved) l_moved c_moved k_moved) (PySem.W.mg_of X G a_moved)
  have r_told_by : LkT ⟨P, w, K, mg, base⟩ 1 "told_by" 1 2 K51.f_told_by := K51.k_told_by (T := ⟨P, w, K, mg, base⟩) m_list m_max (fun_mk (st := s_told_by) l_told_by c_told_by k_told_by) (PySem.W.mg_of X G a_told_by)
  have r_need_size : Lk ⟨P, w, K, mg, base⟩ 1 "need_size" 1 K51.f_need_size := K51.k_need_size (T := ⟨P, w, K, mg, base⟩) m_sum m_len gi_MOST_DEEDS gi_MOST_TRIES (fun_mk (st := s_need_size) l_need_size c_need_size k_need_size) (PySem.W.mg_of X G a_need_size)
  have r_steps_from : Lk ⟨P, w, K, mg, base⟩ 4 "steps_from" 3 K51.f_steps_from := K51.k_steps_from (T := ⟨P, w, K, mg, base⟩) r_moved m_len m_range (fun_mk (st := s_steps_from) l_steps_from c_steps_from k_steps_from) (PySem.W.mg_of X G a_steps_from)
  have r_gone_through : Lk ⟨P, w, K, mg, base⟩ 5 "gone_through" 2 K51.f_gone_through := K51.k_gone_through (T := ⟨P, w, K, mg, base⟩) r_first_state r_steps_from (fun_mk (st := s_gone_through) l_gone_through c_gone_through k_gone_through) (PySem.W.mg_of X G a_gone_through)
  have r_endings : LkT ⟨P, w, K, mg, base⟩ 6 "endings" 1 3 K51.f_endings := K51.k_endings (T := ⟨P, w, K, mg, base⟩) r_need_size r_gone_through r_told_by m_repr m_sorted (fun_mk (st := s_endings) l_endings c_endings k_endings) (PySem.W.mg_of X G a_endings)
  have r_law_mix : Lk ⟨P, w, K, mg, base⟩ 1 "_law_mix" 2 K51.f_law_mix := K51.k_law_mix (T := ⟨P, w, K, mg, base⟩) (fun_mk (st := s_law_mix) l_law_mix c_law_mix k_law_mix) (PySem.W.mg_of X G a_law_mix)
  have r_law_digits : Lk ⟨P, w, K, mg, base⟩ 2 "_law_digits" 2 K51.f_law_digits := K51.k_law_digits (T := ⟨P, w, K, mg, base⟩) r_law_mix m_abs m_range (fun_mk (st := s_law_digits) l_law_digits c_law_digits k_law_digits) (PySem.W.mg_of X G a_law_digits)
  have r_law_at : Lk ⟨P, w, K, mg, base⟩ 1 "_law_at" 2 K51.f_law_at := K51.k_law_at (T := ⟨P, w, K, mg, base⟩) m_len (fun_mk (st := s_law_at) l_law_at c_law_at k_law_at) (PySem.W.mg_of X G a_law_at)
  have r_law_first : Lk ⟨P, w, K, mg, base⟩ 1 "_law_first" 1 K51.f_law_first := K51.k_law_first (T := ⟨P, w, K, mg, base⟩) m_len (fun_mk (st := s_law_first) l_law_first c_law_first k_law_first) (PySem.W.mg_of X G a_law_first)
  have r_law_take_part : Lk ⟨P, w, K, mg, base⟩ 1 "_law_take_part" 5 K51.f_law_take_part := K51.k_law_take_part (T := ⟨P, w, K, mg, base⟩) m_int m_max (fun_mk (st := s_law_take_part) l_law_take_part c_law_take_part k_law_take_part) (PySem.W.mg_of X G a_law_take_part)
  have r_law_try_part : Lk ⟨P, w, K, mg, base⟩ 1 "_law_try_part" 5 K51.f_law_try_part := K51.k_law_try_part (T := ⟨P, w, K, mg, base⟩) (fun_mk (st := s_law_try_part) l_law_try_part c_law_try_part k_law_try_part) (PySem.W.mg_of X G a_law_try_part)
  have r_law_small_step : Lk ⟨P, w, K, mg, base⟩ 2 "_law_small_step" 4 K51.f_law_small_step := K51.k_law_small_step (T := ⟨P, w, K, mg, base⟩) r_law_try_part r_law_take_part m_len (fun_mk (st := s_law_small_step) l_law_small_step c_law_small_step k_law_small_step) (PySem.W.mg_of X G a_law_small_step)
  have r_law_told_by : Lk ⟨P, w, K, mg, base⟩ 1 "_law_told_by" 1 K51.f_law_told_by := K51.k_law_told_by (T := ⟨P, w, K, mg, base⟩) m_list m_max (fun_mk (st := s_law_told_by) l_law_told_by c_law_told_by k_law_told_by) (PySem.W.mg_of X G a_law_told_by)
  have r_law_play : Lk ⟨P, w, K, mg, base⟩ 1 "_law_play" 3 K51.f_law_play := K51.k_law_play (T := ⟨P, w, K, mg, base⟩) m_int m_range m_tuple (fun_mk (st := s_law_play) l_law_play c_law_play k_law_play) (PySem.W.mg_of X G a_law_play)
  have r_law_all : Lk ⟨P, w, K, mg, base⟩ 3 "_law_all" 2 K51.f_law_all := K51.k_law_all (T := ⟨P, w, K, mg, base⟩) r_law_first r_law_small_step m_len m_range (fun_mk (st := s_law_all) l_law_all c_law_all k_law_all) (PySem.W.mg_of X G a_law_all)
  have r_law_small_play : Lk ⟨P, w, K, mg, base⟩ 2 "_law_small_play" 1 K51.f_law_small_play := K51.k_law_small_play (T := ⟨P, w, K, mg, base⟩) r_law_play m_min m_len (fun_mk (st := s_law_small_play) l_law_small_play c_law_small_play k_law_small_play) (PySem.W.mg_of X G a_law_small_play)
  have r_law : Lk ⟨P, w, K, mg, base⟩ 7 "law" 1 K51.f_law := K51.k_law (T := ⟨P, w, K, mg, base⟩) r_law_digits r_law_at r_law_small_play r_law_all r_law_told_by r_endings m_repr m_sorted m_isinstance m_list m_len m_int m_range (fun_mk (st := s_law) l_law c_law k_law) (PySem.W.mg_of X G a_law)
  exact r_law
end K51

namespace Bv
open PySem PySem.Spec L2 PyProof.Rows
/-! ### how meanings are read: rows for simp -/
/-- a sequence of statements, the first one's end at hand -/
def Res.sq (r : Res) (g : Env' → Res) : Res := match r with | .nx ρ => g ρ | r => r
@[simp] theorem sq_nx (ρ : Env') (g : Env' → Res) : Res.sq (.nx ρ) g = g ρ := rfl
@[simp] theorem sq_rt (d : D) (g : Env' → Res) : Res.sq (.rt d) g = .rt d := rfl
@[simp] theorem sq_un (g : Env' → Res) : Res.sq .un g = .un := rfl
@[simp] theorem sq_xc (x : Xc) (g : Env' → Res) : Res.sq (.xc x) g = .xc x := rfl
@[simp] theorem sq_bk (ρ : Env') (g : Env' → Res) : Res.sq (.bk ρ) g = .bk ρ := rfl
@[simp] theorem sq_ct (ρ : Env') (g : Env' → Res) : Res.sq (.ct ρ) g = .ct ρ := rfl
@[simp] theorem sq_ite (c : Prop) [Decidable c] (a b : Res) (g : Env' → Res) : Res.sq (if c then a else b) g = if c then a.sq g else b.sq g := by split <;> rfl
@[simp] theorem sseq_def (f g : Env' → Res) (ρ : Env') : sseq f g ρ = (f ρ).sq g := rfl
@[simp] theorem snext_def (ρ : Env') : snext ρ = .nx ρ := rfl
@[simp] theorem fin_rt (d : D) : Res.fin (.rt d) = .ok d := rfl
@[simp] theorem fin_nx (ρ : Env') : Res.fin (.nx ρ) = .ok .none := rfl
@[simp] theorem fin_xc (x : Xc) : Res.fin (.xc x) = .xc x := rfl
@[simp] theorem fin_un : Res.fin .un = .un := rfl
@[simp] theorem fin_ite (c : Prop) [Decidable c] (a b : Res) : Res.fin (if c then a else b) = if c then a.fin else b.fin := by split <;> rfl
@[simp] theorem st_ite {A : Type} (c : Prop) [Decidable c] (a b : Rv A) (f : A → Res) : Rv.st (if c then a else b) f = if c then a.st f else b.st f := by split <;> rfl
@[simp] theorem bind_ite {A B : Type} (c : Prop) [Decidable c] (a b : Rv A) (f : A → Rv B) : Rv.bind (if c then a else b) f = if c then a.bind f else b.bind f := by split <;> rfl
@[simp] theorem asg_def (i : Nat) (M : List Nat) (f : Vw → Rv D) (ρ : Env') : asg i M f ρ = (f (vw M ρ)).st fun d => .nx (if imm d = true then ρ.set i (.fz d) else (frz M ρ).set i (.fz d)) := rfl
@[simp] theorem asgF_def (i : Nat) (M : List Nat) (f : Vw → Rv (List D)) (ρ : Env') : asgF i M f ρ = (f (vw M ρ)).st fun ds => if i < ρ.length then .nx (if immA ds = true then ρ.set i (.ow 1 (.list ds)) else (frz M ρ).set i (.ow 1 (.list ds))) else .un := rfl
@[simp] theorem asgC_def (i n : Nat) (M : List Nat) (f : Vw → Rv (List D)) (ρ : Env') : asgC i n M f ρ = (f (vw M ρ)).st fun ds => if i < ρ.length then .nx (if immA ds = true then ρ.set i (.ow (n + 1) (.list ds)) else (frz M ρ).set i (.ow (n + 1) (.list ds))) else .un := rfl
@[simp] theorem asgX_def (i n : Nat) (M : List Nat) (f : Vw → Rv D) (ρ : Env') : asgX i n M f ρ = (f (vw M ρ)).st fun d => if i < ρ.length then .nx ((frz M ρ).set i (.ow n d)) else .un := rfl
@[simp] theorem ret_def (M : List Nat) (f : Vw → Rv D) (ρ : Env') : Bv.ret M f ρ = (f (vw M ρ)).st fun d => .rt d := rfl
@[simp] theorem retI_def (M : List Nat) (f : Vw → Rv D) (ρ : Env') : retI M f ρ = (f (vw M ρ)).st fun d => if imm d = true then .rt d else .un := rfl
@[simp] theorem drp_def (M : List Nat) (f : Vw → Rv D) (ρ : Env') : drp M f ρ = (f (vw M ρ)).st fun _ => .nx ρ := rfl
@[simp] theorem sif_def (M : List Nat) (c : Vw → Rv Bool) (f g : Env' → Res) (ρ : Env') : sif M c f g ρ = (c (vw M ρ)).st fun b => if b = true then f ρ else g ρ := rfl
@[simp] theorem setAll_nil (ρ : Env') : setAll [] [] ρ = some ρ := rfl
@[simp] theorem setAll_cons (i : Nat) (is : List Nat) (d : D) (ds : List D) (ρ : Env') : setAll (i :: is) (d :: ds) ρ = setAll is ds (ρ.set i (.fz d)) := rfl
theorem untup_def (is : List Nat) (M : List Nat) (f : Vw → Rv D) (ρ : Env') : untup is M f ρ = (f (vw M ρ)).st fun d => match d with
  | .tuple ds => match setAll is ds (if immA ds = true then ρ else frz M ρ) with | some ρ' => .nx ρ' | none => .un
  | _ => .un := rfl
@[simp] theorem frz_nil0 (ρ : Env') : frz [] ρ = ρ := by
  have : ∀ (ρ : Env') (k : Nat), frzF [] k ρ = ρ := by
    intro ρ
    induction ρ with
    | nil => intro k; rfl
    | cons s r ih => intro k; cases s <;> simp [frzF, frz1, ih]
  exact this ρ 0
@[simp] theorem frz_def (M : List Nat) (s : Sl) (ρ : Env') : frz M (s :: ρ) = frzF M 0 (s :: ρ) := rfl
@[simp] theorem frzF_nil (M : List Nat) (k : Nat) : frzF M k [] = [] := rfl
@[simp] theorem frzF_cons (M : List Nat) (k : Nat) (s : Sl) (r : Env') : frzF M k (s :: r) = frz1 M k s :: frzF M (k + 1) r := rfl
@[simp] theorem frz1_nil (k : Nat) (s : Sl) : frz1 [] k s = s := by cases s <;> simp [frz1]
@[simp] theorem frz1_un (M : List Nat) (k : Nat) : frz1 M k .un = .un := rfl
@[simp] theorem frz1_fz (M : List Nat) (k : Nat) (d : D) : frz1 M k (.fz d) = .fz d := rfl
@[simp] theorem frz1_owd (M : List Nat) (k n : Nat) (d : D) : frz1 M k (.ow n d) = if M.contains k = true then .fz d else .ow n d := rfl
@[simp] theorem vw_cons (M : List Nat) (s : Sl) (r : Env') : vw M (s :: r) = vwF M 0 (s :: r) := rfl
@[simp] theorem vwF_nil (M : List Nat) (k : Nat) : vwF M k [] = [] := rfl
@[simp] theorem vwF_cons (M : List Nat) (k : Nat) (s : Sl) (r : Env') : vwF M k (s :: r) = vw1 M k s :: vwF M (k + 1) r := rfl
@[simp] theorem vw1_un (M : List Nat) (k : Nat) : vw1 M k .un = none := rfl
@[simp] theorem vw1_fz (M : List Nat) (k : Nat) (d : D) : vw1 M k (.fz d) = some d := rfl
@[simp] theorem vw1_owd (M : List Nat) (k n : Nat) (d : D) : vw1 M k (.ow n d) = if M.contains k = true then some d else none := rfl
@[simp] theorem entry_def (n : Nat) (ds : List D) : entry n ds = ds.map .fz ++ List.replicate n .un := rfl
@[simp] theorem cst_def (d : D) (η : Vw) : cst d η = .ok d := rfl
def oget : Option (Option D) → Rv D
  | some (some d) => .ok d
  | _ => .un
@[simp] theorem oget_some (d : D) : oget (some (some d)) = .ok d := rfl
@[simp] theorem oget_none : oget (some none) = .un := rfl
@[simp] theorem var_def (i : Nat) (η : Vw) : var i η = oget η[i]? := by unfold var oget; rfl
@[simp] theorem bi2_def (g : D → D → Rv D) (fa fb : Vw → Rv D) (η : Vw) : bi2 g fa fb η = (fa η).bind fun a => (fb η).bind fun b => g a b := rfl
@[simp] theorem una_def (g : D → Rv D) (fa : Vw → Rv D) (η : Vw) : una g fa η = (fa η).bind g := rfl
def bOf : D → Rv Bool
  | .bool b => .ok b
  | _ => .un
@[simp] theorem bOf_b (b : Bool) : bOf (.bool b) = .ok b := rfl
@[simp] theorem asB_def (f : Vw → Rv D) (η : Vw) : asB f η = (f η).bind bOf := by
  unfold asB
  congr 1
@[simp] theorem tand_def (f g : Vw → Rv Bool) (η : Vw) : tand f g η = (f η).bind fun b => if b = true then g η else .ok false := rfl
@[simp] theorem tor_def (f g : Vw → Rv Bool) (η : Vw) : tor f g η = (f η).bind fun b => if b = true then .ok true else g η := rfl
@[simp] theorem tnot_def (f : Vw → Rv Bool) (η : Vw) : tnot f η = (f η).bind fun b => .ok (!b) := rfl
@[simp] theorem vand_def (f g : Vw → Rv D) (η : Vw) : vand f g η = (asB f η).bind fun b => if b = true then g η else .ok (.bool false) := rfl
@[simp] theorem vor_def (f g : Vw → Rv D) (η : Vw) : vor f g η = (asB f η).bind fun b => if b = true then .ok (.bool true) else g η := rfl
@[simp] theorem vnot_def (f : Vw → Rv D) (η : Vw) : vnot f η = (asB f η).bind fun b => .ok (.bool !b) := rfl
@[simp] theorem ifx_def (c : Vw → Rv Bool) (f g : Vw → Rv D) (η : Vw) : ifx c f g η = (c η).bind fun b => if b = true then f η else g η := rfl
@[simp] theorem anil_def (η : Vw) : anil η = .ok [] := rfl
@[simp] theorem acons_def (f : Vw → Rv D) (g : Vw → Rv (List D)) (η : Vw) : acons f g η = (f η).bind fun a => (g η).bind fun b => .ok (a :: b) := rfl
@[simp] theorem tupD_def (f : Vw → Rv (List D)) (η : Vw) : tupD f η = (f η).bind fun ds => if ds.length ≤ 16000000 then .ok (.tuple ds) else .un := rfl
@[simp] theorem lstF_def (f : Vw → Rv (List D)) (η : Vw) : lstF f η = (f η).bind fun ds => if ds.length ≤ 16000000 then .ok ds else .un := rfl
@[simp] theorem lstD_def (f : Vw → Rv (List D)) (η : Vw) : lstD f η = (f η).bind fun ds => .ok (.list ds) := rfl
@[simp] theorem cal_def (g : List D → Rv D) (fa : Vw → Rv (List D)) (η : Vw) : cal g fa η = (fa η).bind g := rfl
@[simp] theorem calF_def (g : List D → Rv (List D)) (fa : Vw → Rv (List D)) (η : Vw) : calF g fa η = (fa η).bind g := rfl
@[simp] theorem immF_def (f : Vw → Rv D) (η : Vw) : immF f η = (f η).bind fun d => if imm d = true then .ok d else .un := rfl
@[simp] theorem immL_def (f : Vw → Rv (List D)) (η : Vw) : immL f η = (f η).bind fun ds => if immA ds = true then .ok ds else .un := rfl
@[simp] theorem onone_def (η : Vw) : onone η = .ok none := rfl
def iOf : D → Rv (Option Int)
  | .int i => .ok (some i)
  | _ => .un
@[simp] theorem iOf_i (i : Int) : iOf (.int i) = .ok (some i) := rfl
@[simp] theorem osome_def (f : Vw → Rv D) (η : Vw) : osome f η = (f η).bind iOf := by
  unfold osome
  congr 1
@[simp] theorem slc_def (f : Vw → Rv D) (l u : Vw → Rv (Option Int)) (η : Vw) : slc f l u η = (f η).bind fun d => (l η).bind fun lo => (u η).bind fun hi => dSl d lo hi := rfl
@[simp] theorem isi_def (T : String) (f : Vw → Rv D) (η : Vw) : isi T f η = (f η).bind (isiD T) := rfl
@[simp] theorem srcE_def (f : Vw → Rv D) (η : Vw) : srcE f η = (f η).bind fun d => match items d with | some xs => .ok xs | none => .un := rfl
@[simp] theorem srcR_def (rg : List D → Rv (List D)) (f : Vw → Rv (List D)) (η : Vw) : srcR rg f η = (f η).bind rg := rfl
@[simp] theorem sfor_def (M : List Nat) (b : D → Env' → Option Env') (f : Vw → Rv D) (g : Env' → Res) (ρ : Env') : sfor M b f g ρ = (f (vw M ρ)).st fun d => match items d with
  | some xs => forL b g xs (if imm d = true then ρ else frz M ρ)
  | none => .un := rfl
@[simp] theorem sforR_def (rg : List D → Rv (List D)) (M : List Nat) (b : D → Env' → Option Env') (f : Vw → Rv (List D)) (g : Env' → Res) (ρ : Env') : sforR rg M b f g ρ = ((f (vw M ρ)).bind rg).st fun xs => forL b g xs ρ := rfl
@[simp] theorem items_l (xs : List D) : items (.list xs) = some xs := rfl
@[simp] theorem items_t (xs : List D) : items (.tuple xs) = some xs := rfl
@[simp] theorem bName_def (i : Nat) (d : D) (ρ : Env') : bName i d ρ = some (ρ.set i (.fz d)) := rfl
@[simp] theorem vName_def (i : Nat) (d : D) (η : Vw) : vName i d η = some (η.set i (some d)) := rfl
@[simp] theorem wipeV_nil (η : Vw) : wipeV [] η = η := rfl
@[simp] theorem wipeV_cons (v : Nat) (vs : List Nat) (η : Vw) : wipeV (v :: vs) η = (wipeV vs η).set v none := rfl
@[simp] theorem cmp_def (vs : List Nat) (b : D → Vw → Option Vw) (ft : Vw → Rv Bool) (fe : Vw → Rv D) (src : Vw → Rv (List D)) (η : Vw) : cmp vs b ft fe src η = (src η).bind fun xs => if xs.length ≤ 16000000 then compL b ft fe xs (wipeV vs η) else .un := rfl
@[simp] theorem yes_def (η : Vw) : yes η = .ok true := rfl
@[simp] theorem imm_non : imm .none = true := rfl
@[simp] theorem imm_int (i : Int) : imm (.int i) = true := rfl
@[simp] theorem imm_str (i : Str) : imm (.str i) = true := rfl
@[simp] theorem imm_bool (i : Bool) : imm (.bool i) = true := rfl
@[simp] theorem imm_list (i : List D) : imm (.list i) = false := rfl
@[simp] theorem imm_tup (i : List D) : imm (.tuple i) = immA i := rfl
@[simp] theorem immA_nil : immA [] = true := rfl
@[simp] theorem immA_cons (d : D) (i : List D) : immA (d :: i) = (imm d && immA i) := rfl
@[simp] theorem isN_non : isN .none = true := rfl
@[simp] theorem isN_tup (x : List D) : isN (.tuple x) = false := rfl
@[simp] theorem isN_list (x : List D) : isN (.list x) = false := rfl
@[simp] theorem isN_int (x : Int) : isN (.int x) = false := rfl
@[simp] theorem isN_str (x : Str) : isN (.str x) = false := rfl
@[simp] theorem dLt_ii (i j : Int) : dLt (.int i) (.int j) = .ok (.bool (decide (i < j))) := rfl
@[simp] theorem dLe_ii (i j : Int) : dLe (.int i) (.int j) = .ok (.bool (decide (i ≤ j))) := rfl
@[simp] theorem dGt_ii (i j : Int) : dGt (.int i) (.int j) = .ok (.bool (decide (j < i))) := rfl
@[simp] theorem dGe_ii (i j : Int) : dGe (.int i) (.int j) = .ok (.bool (decide (j ≤ i))) := rfl
def ixD (xs : List D) (i : Int) : Rv D := match atI xs i with | some d => .ok d | none => .un
@[simp] theorem dIx_lD (xs : List D) (i : Int) : dIx (.list xs) (.int i) = ixD xs i := rfl
@[simp] theorem dIx_tD (xs : List D) (i : Int) : dIx (.tuple xs) (.int i) = ixD xs i := rfl
@[simp] theorem ixD0 (x : D) (xs : List D) : ixD (x :: xs) 0 = .ok x := by
  unfold ixD atI ixN
  simp
theorem ixD_nat {xs : List D} {i : Int} {x : D} (h0 : 0 ≤ i) (h : xs[i.toNat]? = some x) : ixD xs i = .ok x := by
  have h1 := (List.getElem?_eq_some_iff.mp h).1
  unfold ixD atI ixN
  rw [if_pos h0, if_pos (by omega)]
  simp [h]
@[simp] theorem ixD1 (x0 x1 : D) (xs : List D) : ixD (x0 :: x1 :: xs) 1 = .ok x1 := ixD_nat (by decide) rfl
@[simp] theorem ixD2 (x0 x1 x2 : D) (xs : List D) : ixD (x0 :: x1 :: x2 :: xs) 2 = .ok x2 := ixD_nat (by decide) rfl
@[simp] theorem ixD3 (x0 x1 x2 x3 : D) (xs : List D) : ixD (x0 :: x1 :: x2 :: x3 :: xs) 3 = .ok x3 := ixD_nat (by decide) rfl
@[simp] theorem ixD4 (x0 x1 x2 x3 x4 : D) (xs : List D) : ixD (x0 :: x1 :: x2 :: x3 :: x4 :: xs) 4 = .ok x4 := ixD_nat (by decide) rfl
@[simp] theorem ixD5 (x0 x1 x2 x3 x4 x5 : D) (xs : List D) : ixD (x0 :: x1 :: x2 :: x3 :: x4 :: x5 :: xs) 5 = .ok x5 := ixD_nat (by decide) rfl
@[simp] theorem ixD6 (x0 x1 x2 x3 x4 x5 x6 : D) (xs : List D) : ixD (x0 :: x1 :: x2 :: x3 :: x4 :: x5 :: x6 :: xs) 6 = .ok x6 := ixD_nat (by decide) rfl
@[simp] theorem ixD7 (x0 x1 x2 x3 x4 x5 x6 x7 : D) (xs : List D) : ixD (x0 :: x1 :: x2 :: x3 :: x4 :: x5 :: x6 :: x7 :: xs) 7 = .ok x7 := ixD_nat (by decide) rfl
theorem app_at {j n : Nat} {M : List Nat} {f : Vw → Rv D} {ρ : Env'} {xs : List D} (h : ρ[j]? = some (.ow (n + 1) (.list xs))) : app j M f ρ = (f (vw M ρ)).st fun d => if xs.length < 16000000 ∧ (imm d = true ∨ (n = 0 ∧ M.contains j = false)) then .nx ((if imm d = true then ρ else frz M ρ).set j (.ow (n + 1) (.list (xs ++ [d])))) else .un := by
  unfold app
  rw [h]
theorem dDiv_ok {i j : Int} (h : 0 < j) (h2 : j < 1073741824) : dDiv (.int i) (.int j) = .ok (.int (i / j)) := by
  rw [dDiv_ii]
  exact if_pos (decide_eq_true ⟨h, h2⟩)
theorem dMod_ok {i j : Int} (h : 0 < j) : dMod (.int i) (.int j) = .ok (.int (i % j)) := by
  rw [dMod_ii]
  exact if_pos (decide_eq_true h)
theorem rngOk_of {i : Int} (h : -1000000000 ≤ i) (h2 : i ≤ 1000000000) : rngOk i = true := by
  unfold rngOk
  exact decide_eq_true (by omega)
theorem dMul_ok {i j : Int} (h : -(2 ^ 64) < i) (h2 : i < 2 ^ 64) : dMul (.int i) (.int j) = .ok (.int (i * j)) := by
  rw [dMul_ii]
  exact if_pos (decide_eq_true (.inl ⟨h, h2⟩))
theorem dPow_ok {i j : Int} (h : i.natAbs < 2 ^ 64) (h0 : 0 ≤ j) (h1 : j ≤ 1000000) : dPow (.int i) (.int j) = .ok (.int (i ^ j.toNat)) := by
  rw [dPow_ii]
  exact if_pos (decide_eq_true ⟨h0, h1, h⟩)
/-- one of a row, by a number in its bounds -/
theorem pick {xs : List D} {i : Int} (Q : D → Prop) (h0 : 0 ≤ i) (h1 : i < xs.length) (h : ∀ d ∈ xs, Q d) : ∃ d, ixD xs i = .ok d ∧ Q d := by
  have hl : i.toNat < xs.length := by omega
  exact ⟨xs[i.toNat], ixD_nat h0 (List.getElem?_eq_getElem hl), h _ (List.getElem_mem hl)⟩
/-! comprehensions -/
theorem compL_filter {A : Type} {b : D → Vw → Option Vw} {ft : Vw → Rv Bool} {fe : Vw → Rv D} {η : Vw} {g h : A → D} {p : A → Bool} : ∀ {xs : List A}, (∀ x ∈ xs, ∃ η', b (g x) η = some η' ∧ ft η' = .ok (p x) ∧ (p x = true → fe η' = .ok (h x))) → compL b ft fe (xs.map g) η = .ok ((xs.filter p).map h)
  | [], _ => rfl
  | x :: xs, k => by
    obtain ⟨η', e1, e2, e3⟩ := k x List.mem_cons_self
    have ih := compL_filter (h := h) (p := p) (xs := xs) fun y hy => k y (List.mem_cons_of_mem _ hy)
    rw [List.map_cons]
    unfold compL
    simp only [e1, e2, Rv.nox_ok, Rv.bind_ok]
    cases hp : p x with
    | false => rw [if_neg (by simp), ih, List.filter_cons_of_neg (by simp [hp])]
    | true =>
      rw [if_pos rfl, e3 hp, ih, List.filter_cons_of_pos hp]
      rfl
theorem compL_map {A : Type} {b : D → Vw → Option Vw} {ft : Vw → Rv Bool} {fe : Vw → Rv D} {η : Vw} {g h : A → D} {xs : List A} (k : ∀ x ∈ xs, ∃ η', b (g x) η = some η' ∧ ft η' = .ok true ∧ fe η' = .ok (h x)) : compL b ft fe (xs.map g) η = .ok (xs.map h) := by
  have := compL_filter (b := b) (ft := ft) (fe := fe) (η := η) (g := g) (h := h) (p := fun _ => true) (xs := xs) fun x hx => let ⟨η', e1, e2, e3⟩ := k x hx; ⟨η', e1, e2, fun _ => e3⟩
  rwa [List.filter_eq_self.mpr (fun _ _ => rfl)] at this
@[simp] theorem immA_ints (ns : List Int) : immA (ns.map .int) = true := by
  induction ns with
  | nil => rfl
  | cons n ns ih => simp [ih]
theorem immA_of {xs : List D} (h : ∀ d ∈ xs, imm d = true) : immA xs = true := by
  induction xs with
  | nil => rfl
  | cons x xs ih => simp [h x List.mem_cons_self, ih fun d hd => h d (List.mem_cons_of_mem _ hd)]
/-! lists of whole numbers beside the empty one -/
theorem shp_ints (ns : List Int) : shp (.list (ns.map .int)) = true := by
  have h1 : ∀ ns : List Int, nodictA (ns.map .int) = true := fun ns => by
    induction ns with
    | nil => rfl
    | cons n ns ih => simp [nodictA, nodict, ih]
  have h2 : ∀ ns : List Int, PyData.canLayAll0 (ns.map .int) = true := fun ns => by
    induction ns with
    | nil => rfl
    | cons n ns ih => simp [PyData.canLayAll0, PyData.canLay0, ih]
  have h3 : ∀ ns : List Int, PyData.depthAll (ns.map .int) = 0 := fun ns => by
    induction ns with
    | nil => rfl
    | cons n ns ih => simp [PyData.depthAll, PyData.depth, ih]
  simp [shp, nodict, h1, SeqAt.shaped, PyData.canLay0, h2, PyData.depth, h3]
theorem dEq_nil (ns : List Int) : dEq (.list (ns.map .int)) (.list []) = .ok (.bool ns.isEmpty) := by
  have e : dEq (.list (ns.map .int)) (.list []) = if shp (.list (ns.map .int)) = true ∧ shp (.list []) = true then .ok (.bool (PyData.eqv (.list (ns.map .int)) (.list []))) else .un := rfl
  rw [e, if_pos ⟨shp_ints ns, shp_ints []⟩]
  cases ns <;> simp [PyData.eqv, PyData.eqvAll]
/-! loops -/
@[simp] theorem forL_nil (b : D → Env' → Option Env') (g : Env' → Res) (ρ : Env') : forL b g [] ρ = .nx ρ := rfl
/-- a loop whose turns keep P, or end the def with what R tells -/
theorem forL_inv {b : D → Env' → Option Env'} {g : Env' → Res} (P : Env' → Prop) (R : D → Prop) : ∀ {xs : List D} {ρ : Env'}, P ρ → (∀ d ∈ xs, ∀ ρ, P ρ → ∃ ρ1, b d ρ = some ρ1 ∧ ((∃ ρ2, (g ρ1 = .nx ρ2 ∨ g ρ1 = .ct ρ2) ∧ P ρ2) ∨ ∃ r, g ρ1 = .rt r ∧ R r)) →
    (∃ ρ', forL b g xs ρ = .nx ρ' ∧ P ρ') ∨ ∃ r, forL b g xs ρ = .rt r ∧ R r
  | [], ρ, h, _ => .inl ⟨ρ, rfl, h⟩
  | d :: xs, ρ, h, k => by
    obtain ⟨ρ1, e1, h1⟩ := k d List.mem_cons_self ρ h
    unfold forL
    simp only [e1]
    rcases h1 with ⟨ρ2, h2, h3⟩ | ⟨r, h2, h3⟩
    · have := forL_inv P R (xs := xs) (ρ := ρ2) h3 fun d hd => k d (List.mem_cons_of_mem _ hd)
      rcases h2 with h2 | h2 <;> simp only [h2] <;> exact this
    · simp only [h2]
      exact .inr ⟨r, rfl, h3⟩
/-- .. whose turns keep P -/
theorem forL_all {b : D → Env' → Option Env'} {g : Env' → Res} (P : Env' → Prop) {xs : List D} {ρ : Env'} (h : P ρ) (k : ∀ d ∈ xs, ∀ ρ, P ρ → ∃ ρ1 ρ2, b d ρ = some ρ1 ∧ g ρ1 = .nx ρ2 ∧ P ρ2) : ∃ ρ', forL b g xs ρ = .nx ρ' ∧ P ρ' := by
  rcases forL_inv (b := b) (g := g) P (fun _ => False) h (fun d hd ρ hp => let ⟨ρ1, ρ2, h1, h2, h3⟩ := k d hd ρ hp; ⟨ρ1, h1, .inl ⟨ρ2, .inl h2, h3⟩⟩) with h | ⟨_, _, z⟩
  · exact h
  · exact z.elim
/-- .. P by the turn -/
theorem forL_ix {b : D → Env' → Option Env'} {g : Env' → Res} (P : Nat → Env' → Prop) : ∀ {xs : List D} {k : Nat} {ρ : Env'}, P k ρ → (∀ i d, xs[i]? = some d → ∀ ρ, P (k + i) ρ → ∃ ρ1 ρ2, b d ρ = some ρ1 ∧ g ρ1 = .nx ρ2 ∧ P (k + i + 1) ρ2) →
    ∃ ρ', forL b g xs ρ = .nx ρ' ∧ P (k + xs.length) ρ'
  | [], k, ρ, h, _ => ⟨ρ, rfl, h⟩
  | d :: xs, k, ρ, h, q => by
    obtain ⟨ρ1, ρ2, e1, e2, h2⟩ := q 0 d rfl ρ h
    obtain ⟨ρ', e3, h3⟩ := forL_ix P (xs := xs) (k := k + 1) (ρ := ρ2) (by simpa using h2) fun i d hi ρ hp => by
      have := q (i + 1) d (by simpa using hi) ρ (by rw [show k + (i + 1) = k + 1 + i by omega]; exact hp)
      rw [show k + (i + 1) + 1 = k + 1 + i + 1 by omega] at this
      exact this
    refine ⟨ρ', ?_, by rw [List.length_cons, show k + (xs.length + 1) = k + 1 + xs.length by omega]; exact h3⟩
    unfold forL
    simp only [e1, e2]
    exact e3
end Bv

namespace Bv
open PySem PySem.Spec L2 PyProof.Rows
/-! ### more for plain proofs -/
theorem forL_ixR {b : D → Env' → Option Env'} {g : Env' → Res} (P : Nat → Env' → Prop) (R : D → Prop) : ∀ {xs : List D} {k : Nat} {ρ : Env'}, P k ρ → (∀ i d, xs[i]? = some d → ∀ ρ, P (k + i) ρ → ∃ ρ1, b d ρ = some ρ1 ∧ ((∃ ρ2, g ρ1 = .nx ρ2 ∧ P (k + i + 1) ρ2) ∨ ∃ r, g ρ1 = .rt r ∧ R r)) →
    (∃ ρ', forL b g xs ρ = .nx ρ' ∧ P (k + xs.length) ρ') ∨ ∃ r, forL b g xs ρ = .rt r ∧ R r
  | [], k, ρ, h, _ => .inl ⟨ρ, rfl, h⟩
  | d :: xs, k, ρ, h, q => by
    obtain ⟨ρ1, e1, h1⟩ := q 0 d rfl ρ h
    unfold forL
    simp only [e1]
    rcases h1 with ⟨ρ2, e2, h2⟩ | ⟨r, e2, h2⟩
    · simp only [e2]
      rcases forL_ixR P R (xs := xs) (k := k + 1) (ρ := ρ2) (by simpa using h2) (fun i d hi ρ hp => by
        have := q (i + 1) d (by simpa using hi) ρ (by rw [show k + (i + 1) = k + 1 + i by omega]; exact hp)
        rw [show k + (i + 1) + 1 = k + 1 + i + 1 by omega] at this
        exact this) with ⟨ρ', e3, h3⟩ | h3
      · exact .inl ⟨ρ', e3, by rw [List.length_cons, show k + (xs.length + 1) = k + 1 + xs.length by omega]; exact h3⟩
      · exact .inr h3
    · simp only [e2]
      exact .inr ⟨r, rfl, h2⟩
theorem range_at {a b : Int} {i : Nat} {d : D} (hi : (rangeD a b)[i]? = some d) : d = .int (a + (i : Nat)) ∧ i < (b - a).toNat := by
  have hlt := (List.getElem?_eq_some_iff.mp hi).1
  rw [rangeD_len] at hlt
  rw [rangeD_get hlt] at hi
  cases hi
  exact ⟨rfl, hlt⟩
theorem rangeD_nat (n : Nat) : rangeD 0 (n : Nat) = (List.range n).map fun p => (.int ((p : Nat) : Int) : D) := by
  unfold rangeD
  rw [show ((n : Nat) - (0 : Int)).toNat = n by omega]
  exact List.map_congr_left fun p _ => by rw [Int.zero_add]
theorem rng1_nat {n : Nat} (h : n ≤ 1000000000) : rng1 [.int (n : Nat)] = .ok (rangeD 0 (n : Nat)) := by rw [rng1_i, if_pos (rngOk_of (by omega) (by omega))]
theorem six_n (n d : Nat) {i : Int} (h : 0 ≤ i) : HT.sIx n d (some i) = min i.toNat n := by
  unfold HT.sIx
  exact if_neg (by omega)
theorem cut_from (xs : List D) {i : Int} (h : 0 ≤ i) : cutD xs (some i) none = xs.drop i.toNat := by
  unfold cutD
  rw [six_n _ _ h, HT.sIx_none, List.take_of_length_le (by simp)]
  by_cases hl : i.toNat ≤ xs.length
  · rw [Nat.min_eq_left hl]
  · rw [Nat.min_eq_right (by omega), List.drop_eq_nil_of_le (by omega), List.drop_eq_nil_of_le (by omega)]
theorem cut_to (xs : List D) {i : Int} (h : 0 ≤ i) : cutD xs none (some i) = xs.take i.toNat := by
  unfold cutD
  rw [six_n _ _ h, HT.sIx_none, List.drop_zero, Nat.sub_zero]
  by_cases hl : i.toNat ≤ xs.length
  · rw [Nat.min_eq_left hl]
  · rw [Nat.min_eq_right (by omega), List.take_of_length_le (by omega), List.take_of_length_le (by omega)]
theorem cut_but (xs : List D) : cutD xs none (some (-1)) = xs.take (xs.length - 1) := by
  unfold cutD
  have : HT.sIx xs.length xs.length (some (-1)) = xs.length - 1 := by
    unfold HT.sIx
    simp
    omega
  rw [this, HT.sIx_none, List.drop_zero, Nat.sub_zero]
theorem append1 {j : Nat} {M : List Nat} {f : Vw → Rv D} {ρ : Env'} {xs : List D} {d : D} (h : ρ[j]? = some (.ow 1 (.list xs))) (hf : f (vw M ρ) = .ok d) (hi : imm d = true) (hl : xs.length < 16000000) : app j M f ρ = .nx (ρ.set j (.ow 1 (.list (xs ++ [d])))) := by
  rw [app_at (n := 0) h, hf]
  simp only [Rv.st_ok]
  rw [if_pos ⟨hl, .inl hi⟩, if_pos hi]
theorem extend_at {j n : Nat} {M : List Nat} {f : Vw → Rv D} {ρ : Env'} {xs es : List D} (h : ρ[j]? = some (.ow (n + 1) (.list xs))) (hf : f (vw M ρ) = .ok (.list es)) (hl : xs.length + es.length < 16000000) (hi : immA es = true) : ext j M f ρ = .nx (ρ.set j (.ow (n + 1) (.list (xs ++ es)))) := by
  unfold ext
  simp only [h, hf, Rv.st_ok]
  rw [if_pos ⟨hl, hi⟩]
theorem ixD_last (xs : List D) (x : D) : ixD (xs ++ [x]) (-1) = .ok x := by
  have : atI (xs ++ [x]) (-1) = some x := by
    unfold atI ixN
    rw [if_neg (by decide), List.length_append, List.length_singleton]
    rw [if_pos (show -(((xs.length + 1 : Nat)) : Int) ≤ -1 by omega)]
    simp only [Option.bind_some]
    have h2 : ((↑(xs.length + 1) : Int) + -1).toNat = xs.length := by omega
    have h3 : (-1 + (↑(xs.length + 1) : Int)).toNat = xs.length := by omega
    first | rw [h2] | rw [h3]
    rw [List.getElem?_append_right (by simp)]
    simp
  unfold ixD
  rw [this]
/-! numbers in lists -/
theorem ints_eqv : ∀ (a b : List Int), PyData.eqvAll (a.map .int) (b.map .int) = decide (a = b)
  | [], [] => rfl
  | [], b :: bs => rfl
  | a :: as, [] => rfl
  | a :: as, b :: bs => by
    have ih := ints_eqv as bs
    simp only [List.map_cons, PyData.eqvAll, PyData.eqv, ih]
    rw [Bool.eq_iff_iff]
    simp
theorem dEq_ints (a b : List Int) : dEq (.list (a.map .int)) (.list (b.map .int)) = .ok (.bool (decide (a = b))) := by
  have e : dEq (.list (a.map .int)) (.list (b.map .int)) = if shp (.list (a.map .int)) = true ∧ shp (.list (b.map .int)) = true then .ok (.bool (PyData.eqv (.list (a.map .int)) (.list (b.map .int)))) else .un := rfl
  rw [e, if_pos ⟨shp_ints a, shp_ints b⟩]
  rw [PyData.eqv, ints_eqv]
theorem rangeD_isInts (a b : Int) : ∃ ns : List Int, rangeD a b = ns.map .int := ⟨(List.range (b - a).toNat).map fun i => a + (i : Nat), by unfold rangeD; rw [List.map_map]; rfl⟩
theorem sortedA_ints (ns : List Int) : dSortedA [.list (ns.map .int)] = .ok ((sortI ns).map .int) := by
  show (match intsOf (ns.map .int) with
      | some ns => Rv.ok ((sortI ns).map PyData.int)
      | none => match strsOf (ns.map .int) with
        | some ks => .ok ((sortS ks).map .str)
        | none => .un) = _
  rw [intsOf_map]
theorem rgF_at {fa fb : Vw → Rv D} {η : Vw} {a b : Int} (ha : fa η = .ok (.int a)) (hb : fb η = .ok (.int b)) (h1 : -1000000000 ≤ a ∧ a ≤ 1000000000) (h2 : -1000000000 ≤ b ∧ b ≤ 1000000000) (h3 : b - a ≤ 16000000) : rgF fa fb η = .ok (rangeD a b) := by
  unfold rgF
  rw [ha, hb]
  simp only [Rv.bind_ok]
  rw [if_pos ⟨rngOk_of h1.1 h1.2, rngOk_of h2.1 h2.2, by omega⟩]
/-! what can be shown -/
def Shw (n m : Nat) (d : D) : Prop := nodict d = true ∧ d.showable = true ∧ d.depth ≤ n ∧ d.leavesShort 110 = true ∧ d.weight ≤ m
theorem Shw.mono {n m n' m' : Nat} {d : D} (h : Shw n m d) (hn : n ≤ n') (hm : m ≤ m') : Shw n' m' d := ⟨h.1, h.2.1, Nat.le_trans h.2.2.1 hn, h.2.2.2.1, Nat.le_trans h.2.2.2.2 hm⟩
theorem shw_all {n m : Nat} {xs : List D} (h : ∀ d ∈ xs, Shw n m d) : nodictA xs = true ∧ PyData.showableAll xs = true ∧ PyData.depthAll xs ≤ n ∧ PyData.leavesShortAll 110 xs = true ∧ PyData.weightAll xs ≤ (m + 1) * xs.length := by
  induction xs with
  | nil => exact ⟨rfl, rfl, by simp [PyData.depthAll], rfl, Nat.le_refl _⟩
  | cons d xs ih =>
    obtain ⟨h1, h2, h3, h4, h5⟩ := ih fun x hx => h x (List.mem_cons_of_mem _ hx)
    obtain ⟨g1, g2, g3, g4, g5⟩ := h d List.mem_cons_self
    refine ⟨by simp [nodictA, g1, h1], by simp [PyData.showableAll, g2, h2], by simp only [PyData.depthAll]; omega, by simp [PyData.leavesShortAll, g4, h4], ?_⟩
    simp only [PyData.weightAll, List.length_cons, Nat.mul_add, Nat.mul_one]
    omega
theorem shw_tup {n m : Nat} {xs : List D} (h : ∀ d ∈ xs, Shw n m d) : Shw (n + 1) ((m + 1) * xs.length) (.tuple xs) := by
  obtain ⟨g1, g2, g3, g4, g5⟩ := shw_all h
  exact ⟨by simpa [nodict] using g1, by simpa [PyData.showable] using g2, by simp only [PyData.depth]; omega, by simpa [PyData.leavesShort] using g4, g5⟩
theorem shw_lst {n m : Nat} {xs : List D} (h : ∀ d ∈ xs, Shw n m d) : Shw (n + 1) ((m + 1) * xs.length) (.list xs) := by
  obtain ⟨g1, g2, g3, g4, g5⟩ := shw_all h
  exact ⟨by simpa [nodict] using g1, by simpa [PyData.showable] using g2, by simp only [PyData.depth]; omega, by simpa [PyData.leavesShort] using g4, g5⟩
theorem shw_none : Shw 0 0 .none := ⟨rfl, rfl, by simp [PyData.depth], rfl, by simp [PyData.weight]⟩
theorem shw_bool (b : Bool) : Shw 0 0 (.bool b) := ⟨rfl, rfl, by simp [PyData.depth], rfl, by simp [PyData.weight]⟩
theorem shw_int {i : Int} (h : i.natAbs < 10 ^ 12) : Shw 0 40 (.int i) := by
  have h1 := PyData.shown_int_le h
  have h2 : i.natAbs.log2 < 40 := by
    by_cases h0 : i.natAbs = 0
    · rw [h0]; decide
    · exact (Nat.log2_lt h0).mpr (Nat.lt_of_lt_of_le h (by decide))
  refine ⟨rfl, ?_, by simp [PyData.depth], ?_, ?_⟩
  · simp [PyData.showable]
    omega
  · simp only [PyData.leavesShort]
    exact decide_eq_true (by omega)
  · simp only [PyData.weight]
    split <;> omega
theorem repr_at {n m : Nat} {d : D} (h : Shw n m d) (hn : n ≤ 60) (hm : m ≤ 100000) : dRepr [d] = .ok (.str d.shown) := by
  obtain ⟨g1, g2, g3, g4, g5⟩ := h
  have := PyData.shown_le 110 (by decide) d g4
  rw [dRepr_1, if_pos]
  exact ⟨g1, g2, by omega, by omega⟩
end Bv

namespace K51
open PySem PySem.Spec L2 PyProof.Rows Bv
/-- the three rules -/
inductive Ru
  | good
  | bare
  | blind
def Ru.d : Ru → D
  | .good => .str "good"
  | .bare => .str "bare"
  | .blind => .str "blind"
def Ru.ba : Ru → Bool
  | .bare => true
  | _ => false
def Ru.bl : Ru → Bool
  | .blind => true
  | _ => false
theorem ru_bare (ru : Ru) : dEq ru.d (.str "bare") = .ok (.bool ru.ba) := by
  cases ru with
  | good => exact congrArg (fun b => Rv.ok (PyData.bool b)) (by decide +kernel : decide (Str.ofString "good" = Str.ofString "bare") = false)
  | bare => exact congrArg (fun b => Rv.ok (PyData.bool b)) (by decide +kernel : decide (Str.ofString "bare" = Str.ofString "bare") = true)
  | blind => exact congrArg (fun b => Rv.ok (PyData.bool b)) (by decide +kernel : decide (Str.ofString "blind" = Str.ofString "bare") = false)
theorem ru_blind (ru : Ru) : dEq ru.d (.str "blind") = .ok (.bool ru.bl) := by
  cases ru with
  | good => exact congrArg (fun b => Rv.ok (PyData.bool b)) (by decide +kernel : decide (Str.ofString "good" = Str.ofString "blind") = false)
  | bare => exact congrArg (fun b => Rv.ok (PyData.bool b)) (by decide +kernel : decide (Str.ofString "bare" = Str.ofString "blind") = false)
  | blind => exact congrArg (fun b => Rv.ok (PyData.bool b)) (by decide +kernel : decide (Str.ofString "blind" = Str.ofString "blind") = true)
@[simp] theorem ru_imm (ru : Ru) : imm ru.d = true := by cases ru <;> rfl
variable {ru : Ru}
abbrev stD (near far : Int) (boxes : List D) (mv : D) : D := .tuple [.int near, .int far, .tuple boxes, mv]
abbrev mvD (n ph f : Int) (x : D) (told : List D) : D := .tuple [.int n, .int ph, .int f, x, .tuple told]
/-- one who moves: how many are done, the phase, the far seen, the thing seen, what was told -/
structure Mv where
  n : Int
  ph : Int
  f : Int
  x : D
  told : List D
def Mv.d (m : Mv) : D := mvD m.n m.ph m.f m.x m.told
def endM (m : Mv) (w : D) : Mv := ⟨m.n + 1, 0, 0, .none, m.told ++ [w]⟩
def gx (bx : List D) (i : Int) : D := (bx[i.toNat]?).getD .none
def stepT (ru : Ru) (near far : Int) (bx : List D) (m : Mv) : Int × Mv :=
  if m.ph = 0 then (far, ⟨m.n, 1, far, .none, m.told⟩)
  else if m.ph = 1 then (far, if near ≤ m.f then endM m .none else ⟨m.n, 2, m.f, .none, m.told⟩)
  else if m.ph = 2 then (far, ⟨m.n, 3, m.f, gx bx m.f, m.told⟩)
  else if far = m.f ∨ ru.bl = true then (m.f + 1, endM m m.x) else (far, endM m (.str "lost"))
def stepO (ru : Ru) (near far : Int) (bx : List D) (m : Mv) : Int × Int × Mv :=
  if m.ph = 0 then (near - 1, far, ⟨m.n, 1, 0, .none, m.told⟩)
  else if m.ph = 1 then (near, far, ⟨m.n, 2, far, .none, m.told⟩)
  else if m.ph = 2 then (if near < m.f then (m.f, far, endM m .none) else if m.f < near then (near, far, endM m (gx bx near)) else (near, far, ⟨m.n, if ru.ba = true then 4 else 3, m.f, gx bx near, m.told⟩))
  else if m.ph = 3 then (if far = m.f then (near, far + 1, ⟨m.n, 4, m.f, m.x, m.told⟩) else (near, far, ⟨m.n, 4, m.f, .none, m.told⟩))
  else (m.f + 1, far, endM m m.x)
theorem ended_at (n ph f : Int) (x w : D) (told : List D) (h : told.length ≤ 1000) : f_ended [mvD n ph f x told, w] = .ok (mvD (n + 1) 0 0 .none (told ++ [w])) := by
  have h' : told.length + 1 ≤ 16000000 := by omega
  simp [f_ended, m_ended, h']
/-- reads at i stand -/
def Has (bx : List D) (i : Int) : Prop := ixD bx i = .ok (gx bx i)
theorem has_at {bx : List D} {i : Int} (h0 : 0 ≤ i) (h1 : i < bx.length) : Has bx i := by
  have h : i.toNat < bx.length := by omega
  unfold Has
  rw [ixD_nat h0 (List.getElem?_eq_getElem h)]
  simp [gx, h]
theorem good_blind : ¬ (Str.ofString "good" = Str.ofString "blind") := by decide +kernel
theorem good_bare : ¬ (Str.ofString "good" = Str.ofString "bare") := by decide +kernel
theorem take_lay : ¬ (Str.ofString "take" = Str.ofString "lay") := by decide +kernel
theorem lay_take : ¬ (Str.ofString "lay" = Str.ofString "take") := by decide +kernel
theorem att_at (near far : Int) (bx : List D) (mv : D) (m : Mv) (hp : m.ph = 0 ∨ m.ph = 1 ∨ (m.ph = 2 ∧ Has bx m.f) ∨ m.ph = 3) (h : m.told.length ≤ 1000) :
    f_attempt [ru.d, stD near far bx mv, m.d] = .ok (.tuple [stD near (stepT ru near far bx m).1 bx mv, (stepT ru near far bx m).2.d]) := by
  obtain ⟨n, ph, f, x, told⟩ := m
  rcases hp with rfl | rfl | ⟨rfl, hx⟩ | rfl
  · simp [f_attempt, m_attempt, untup_def, Mv.d, stepT]
  · simp [f_attempt, m_attempt, untup_def, Mv.d, stepT, endM, ended_at, h]
    split <;> simp [ended_at, h, *]
  · simp only [Has] at hx
    simp [f_attempt, m_attempt, untup_def, Mv.d, stepT, hx]
  · by_cases c1 : far = f
    · simp [f_attempt, m_attempt, untup_def, Mv.d, stepT, endM, ended_at, h, c1]
    · cases hb : ru.bl <;> simp [f_attempt, m_attempt, untup_def, Mv.d, stepT, endM, ended_at, h, c1, ru_blind, hb]
theorem take_at (near far : Int) (bx : List D) (mv : D) (m : Mv) (hp : m.ph = 0 ∨ m.ph = 1 ∨ (m.ph = 2 ∧ (near < m.f ∨ Has bx near)) ∨ m.ph = 3 ∨ m.ph = 4) (h : m.told.length ≤ 1000) :
    f_take [ru.d, stD near far bx mv, m.d] = .ok (.tuple [stD (stepO ru near far bx m).1 (stepO ru near far bx m).2.1 bx mv, (stepO ru near far bx m).2.2.d]) := by
  obtain ⟨n, ph, f, x, told⟩ := m
  rcases hp with rfl | rfl | ⟨rfl, hx⟩ | rfl | rfl
  · simp [f_take, m_take, untup_def, Mv.d, stepO]
  · simp [f_take, m_take, untup_def, Mv.d, stepO]
  · simp only [Has] at hx
    simp [f_take, m_take, untup_def, Mv.d, stepO, endM, ended_at, h]
    by_cases h1 : near < f
    · simp [ended_at, h, h1]
    · rw [or_iff_right h1] at hx
      by_cases h2 : f < near
      · simp [ended_at, h, h1, h2, hx]
      · cases hb : ru.ba <;> simp [ended_at, h, h1, h2, hx, ru_bare, hb]
  · simp [f_take, m_take, untup_def, Mv.d, stepO]
    split <;> simp [*]
  · simp [f_take, m_take, untup_def, Mv.d, stepO, endM, ended_at, h]
/-- the law's own: what part tells, and what ends -/
theorem try_part_at (near far : Int) (bx : List D) (m : Mv) (hp : (m.ph = 0 ∧ m.x = .none) ∨ (m.ph = 1 ∧ m.x = .none) ∨ (m.ph = 2 ∧ Has bx m.f) ∨ m.ph = 3) :
    ∃ far' p' w, f_law_try_part [ru.d, .int near, .int far, .tuple bx, m.d] = .ok (.tuple [.int far', p', w]) ∧ far' = (stepT ru near far bx m).1 ∧
      ((w = .none ∧ p' = (stepT ru near far bx m).2.d) ∨ ∃ y, w = .tuple [y] ∧ p' = m.d ∧ (stepT ru near far bx m).2 = endM m y) := by
  obtain ⟨n, ph, f, x, told⟩ := m
  rcases hp with ⟨rfl, hx⟩ | ⟨rfl, hx⟩ | ⟨rfl, hx⟩ | rfl
  · simp only at hx
    subst hx
    exact ⟨far, mvD n 1 far .none told, .none, by simp [f_law_try_part, m_law_try_part, untup_def, Mv.d], by simp [stepT], .inl ⟨rfl, by simp [stepT, Mv.d]⟩⟩
  · simp only at hx
    subst hx
    by_cases h1 : near ≤ f
    · exact ⟨far, mvD n 1 f .none told, .tuple [.none], by simp [f_law_try_part, m_law_try_part, untup_def, Mv.d, h1], by simp [stepT], .inr ⟨.none, rfl, rfl, by simp [stepT, h1]⟩⟩
    · exact ⟨far, mvD n 2 f .none told, .none, by simp [f_law_try_part, m_law_try_part, untup_def, Mv.d, h1], by simp [stepT], .inl ⟨rfl, by simp [stepT, Mv.d, h1]⟩⟩
  · simp only [Has] at hx
    exact ⟨far, mvD n 3 f (gx bx f) told, .none, by simp [f_law_try_part, m_law_try_part, untup_def, Mv.d, hx], by simp [stepT], .inl ⟨rfl, by simp [stepT, Mv.d]⟩⟩
  · by_cases h1 : far = f
    · exact ⟨f + 1, mvD n 3 f x told, .tuple [x], by simp [f_law_try_part, m_law_try_part, untup_def, Mv.d, h1], by simp [stepT, h1], .inr ⟨x, rfl, rfl, by simp [stepT, h1]⟩⟩
    · cases hb : ru.bl with
      | true => exact ⟨f + 1, mvD n 3 f x told, .tuple [x], by simp [f_law_try_part, m_law_try_part, untup_def, Mv.d, h1, ru_blind, hb], by simp [stepT, h1, hb], .inr ⟨x, rfl, rfl, by simp [stepT, h1, hb]⟩⟩
      | false => exact ⟨far, mvD n 3 f x told, .tuple [.str "lost"], by simp [f_law_try_part, m_law_try_part, untup_def, Mv.d, h1, ru_blind, hb], by simp [stepT, h1, hb], .inr ⟨.str "lost", rfl, rfl, by simp [stepT, h1, hb]⟩⟩
theorem take_part_at (near far : Int) (bx : List D) (m : Mv) (hp : (m.ph = 0 ∧ m.x = .none ∧ m.f = 0) ∨ (m.ph = 1 ∧ m.x = .none) ∨ (m.ph = 2 ∧ (Has bx near ∨ near < m.f ∧ ∃ y, ixD bx near = .ok y)) ∨ m.ph = 3 ∨ m.ph = 4) :
    ∃ near' far' p' w, f_law_take_part [ru.d, .int near, .int far, .tuple bx, m.d] = .ok (.tuple [.int near', .int far', p', w]) ∧ near' = (stepO ru near far bx m).1 ∧ far' = (stepO ru near far bx m).2.1 ∧
      ((w = .none ∧ p' = (stepO ru near far bx m).2.2.d) ∨ ∃ y, w = .tuple [y] ∧ p' = m.d ∧ (stepO ru near far bx m).2.2 = endM m y) := by
  obtain ⟨n, ph, f, x, told⟩ := m
  rcases hp with ⟨rfl, hx, hf⟩ | ⟨rfl, hx⟩ | ⟨rfl, hx⟩ | rfl | rfl
  · simp only at hx hf
    subst hx hf
    exact ⟨near - 1, far, mvD n 1 0 .none told, .none, by simp [f_law_take_part, m_law_take_part, untup_def, Mv.d], by simp [stepO], by simp [stepO], .inl ⟨rfl, by simp [stepO, Mv.d]⟩⟩
  · simp only at hx
    subst hx
    exact ⟨near, far, mvD n 2 far .none told, .none, by simp [f_law_take_part, m_law_take_part, untup_def, Mv.d], by simp [stepO], by simp [stepO], .inl ⟨rfl, by simp [stepO, Mv.d]⟩⟩
  · simp only [Has] at hx
    by_cases h1 : near < f
    · obtain ⟨y, hy⟩ : ∃ y, ixD bx near = .ok y := hx.elim (fun h => ⟨_, h⟩) (fun h => h.2)
      refine ⟨f, far, mvD n 2 f x told, .tuple [.none], ?_, by simp [stepO, h1], by simp [stepO, h1], .inr ⟨.none, rfl, rfl, by simp [stepO, h1]⟩⟩
      have h2 : ¬ f < near := by omega
      have h0 : ¬ near = f := by omega
      simp [f_law_take_part, m_law_take_part, untup_def, Mv.d, hy, h0, h1, h2]
    · have hx2 : ixD bx near = .ok (gx bx near) := hx.elim id (fun h => absurd h.1 h1)
      clear hx
      by_cases h0 : near = f
      · subst h0
        cases hb : ru.ba with
        | true => exact ⟨near, far, mvD n 4 near (gx bx near) told, .none, by simp [f_law_take_part, m_law_take_part, untup_def, Mv.d, hx2, ru_bare, hb], by simp [stepO], by simp [stepO], .inl ⟨rfl, by simp [stepO, Mv.d, hb]⟩⟩
        | false => exact ⟨near, far, mvD n 3 near (gx bx near) told, .none, by simp [f_law_take_part, m_law_take_part, untup_def, Mv.d, hx2, ru_bare, hb], by simp [stepO], by simp [stepO], .inl ⟨rfl, by simp [stepO, Mv.d, hb]⟩⟩
      · have h2 : f < near := by omega
        refine ⟨near, far, mvD n 2 f x told, .tuple [gx bx near], ?_, by simp [stepO, h1, h2], by simp [stepO, h1, h2], .inr ⟨gx bx near, rfl, rfl, by simp [stepO, h1, h2]⟩⟩
        simp [f_law_take_part, m_law_take_part, untup_def, Mv.d, hx2, h0, h1, h2]
  · by_cases h1 : far = f
    · exact ⟨near, far + 1, mvD n 4 f x told, .none, by simp [f_law_take_part, m_law_take_part, untup_def, Mv.d, h1], by simp [stepO, h1], by simp [stepO, h1], .inl ⟨rfl, by simp [stepO, Mv.d, h1]⟩⟩
    · exact ⟨near, far, mvD n 4 f .none told, .none, by simp [f_law_take_part, m_law_take_part, untup_def, Mv.d, h1], by simp [stepO, h1], by simp [stepO, h1], .inl ⟨rfl, by simp [stepO, Mv.d, h1]⟩⟩
  · exact ⟨f + 1, far, mvD n 4 f x told, .tuple [x], by simp [f_law_take_part, m_law_take_part, untup_def, Mv.d], by simp [stepO], by simp [stepO], .inr ⟨x, rfl, rfl, by simp [stepO]⟩⟩
/-! the movers and the boxes, one changed -/
theorem six_nat (n d : Nat) {i : Int} (h : 0 ≤ i) : HT.sIx n d (some i) = min i.toNat n := by
  unfold HT.sIx
  exact if_neg (by omega)
theorem cut_lo (xs : List D) {i : Int} (h : 0 ≤ i) : Bv.cutD xs none (some i) = xs.take i.toNat := by
  unfold Bv.cutD
  rw [six_nat _ _ h, HT.sIx_none, List.drop_zero, Nat.sub_zero]
  by_cases hl : i.toNat ≤ xs.length
  · rw [Nat.min_eq_left hl]
  · rw [Nat.min_eq_right (by omega), List.take_of_length_le (by omega), List.take_of_length_le (by omega)]
theorem cut_hi (xs : List D) {i : Int} (h : 0 ≤ i) : Bv.cutD xs (some i) none = xs.drop i.toNat := by
  unfold Bv.cutD
  rw [six_nat _ _ h, HT.sIx_none, List.take_of_length_le (by simp)]
  by_cases hl : i.toNat ≤ xs.length
  · rw [Nat.min_eq_left hl]
  · rw [Nat.min_eq_right (by omega), List.drop_eq_nil_of_le (by omega), List.drop_eq_nil_of_le (by omega)]
theorem cut3 (a b c d : D) : Bv.cutD [a, b, c, d] none (some 3) = [a, b, c] := by rw [cut_lo _ (by decide)]; rfl
theorem cut2 (a b c d e : D) : Bv.cutD [a, b, c, d, e] (some 2) none = [c, d, e] := by rw [cut_hi _ (by decide)]; rfl
theorem set_mid {xs : List D} {i : Int} (d : D) (h0 : 0 ≤ i) (h1 : i < xs.length) : xs.take i.toNat ++ d :: xs.drop (i + 1).toNat = xs.set i.toNat d := by
  rw [List.set_eq_take_append_cons_drop, if_pos (by omega), show (i + 1).toNat = i.toNat + 1 by omega]
theorem put_at {xs : List D} {i : Int} (d : D) (h0 : 0 ≤ i) (h1 : i < xs.length) (h2 : xs.length ≤ 1000) :
    ((dAdd (.tuple (xs.take i.toNat)) (.tuple [d])).bind fun a => dAdd a (.tuple (xs.drop (i + 1).toNat))) = .ok (.tuple (xs.set i.toNat d)) := by
  rw [dAdd_tt, if_pos (by simp; omega)]
  simp only [Rv.bind_ok]
  rw [dAdd_tt, if_pos (by simp; omega), List.append_assoc]
  rw [show [d] ++ xs.drop (i + 1).toNat = d :: xs.drop (i + 1).toNat from rfl, set_mid d h0 h1]
@[simp] theorem mv_ix0 (m : Mv) : dIx m.d (.int 0) = .ok (.int m.n) := by simp [Mv.d]
@[simp] theorem mv_ix1 (m : Mv) : dIx m.d (.int 1) = .ok (.int m.ph) := by simp [Mv.d]
@[simp] theorem mv_ix4 (m : Mv) : dIx m.d (.int 4) = .ok (.tuple m.told) := by simp [Mv.d]
/-- a deed: a thing to lay, or a take -/
def dd : Option D → D
  | some t => .tuple [.str "lay", t]
  | none => .tuple [.str "take"]
def plD (deeds : List (Option D)) (tries : List Int) : D := .tuple [.tuple (deeds.map dd), .tuple (tries.map .int)]
theorem moved_thief {deeds : List (Option D)} {tries : List Int} {near far far' w k : Int} {bx ms : List D} {m m' : Mv} (hw : 0 < w) (hm : ixD ms w = .ok m.d) (ht : ixD (tries.map .int) (w - 1) = .ok (.int k)) (hk : m.n ≠ k)
    (ha : f_attempt [ru.d, stD near far bx (.tuple ms), m.d] = .ok (.tuple [stD near far' bx (.tuple ms), m'.d])) (hl : w < ms.length) (h2 : ms.length ≤ 1000) :
    f_moved [plD deeds tries, ru.d, stD near far bx (.tuple ms), .int w] = .ok (stD near far' bx (.tuple (ms.set w.toNat m'.d))) := by
  have hw0 : 0 ≤ w := by omega
  simp [f_moved, m_moved, untup_def, plD, hw, hm, ht, hk, ha, cut_lo _ hw0, cut_hi _ (show 0 ≤ w + 1 by omega)]
  rw [if_pos (by omega), if_pos (by omega), cut3, if_pos (by simp), set_mid _ hw0 hl]
  rfl
theorem moved_none_thief {deeds : List (Option D)} {tries : List Int} {w k : Int} {near far : Int} {bx ms : List D} {m : Mv} (hw : 0 < w) (hm : ixD ms w = .ok m.d) (ht : ixD (tries.map .int) (w - 1) = .ok (.int k)) (hk : m.n = k) :
    f_moved [plD deeds tries, ru.d, stD near far bx (.tuple ms), .int w] = .ok .none := by
  simp [f_moved, m_moved, untup_def, plD, hw, hm, ht, hk]
theorem moved_none_own {deeds : List (Option D)} {tries : List Int} {near far : Int} {bx ms : List D} {m : Mv} (hm : ixD ms 0 = .ok m.d) (hk : m.n = deeds.length) :
    f_moved [plD deeds tries, ru.d, stD near far bx (.tuple ms), .int 0] = .ok .none := by
  simp [f_moved, m_moved, untup_def, plD, hm, hk, dLen]
theorem moved_take {deeds : List (Option D)} {tries : List Int} {near far near' far' : Int} {bx ms : List D} {m m' : Mv} (hm : ixD ms 0 = .ok m.d) (hk : m.n ≠ deeds.length) (hd : ixD (deeds.map dd) m.n = .ok (dd none))
    (ha : f_take [ru.d, stD near far bx (.tuple ms), m.d] = .ok (.tuple [stD near' far' bx (.tuple ms), m'.d])) (hl : 0 < ms.length) (h2 : ms.length ≤ 1000) :
    f_moved [plD deeds tries, ru.d, stD near far bx (.tuple ms), .int 0] = .ok (stD near' far' bx (.tuple (ms.set 0 m'.d))) := by
  simp only [dd] at hd
  simp [f_moved, m_moved, untup_def, plD, hm, hk, hd, ha, dLen, take_lay, cut_lo _ (show (0 : Int) ≤ 0 by decide), cut_hi _ (show (0 : Int) ≤ 1 by decide)]
  rw [if_pos (by omega), cut3, if_pos (by simp)]
  have := set_mid (xs := ms) m'.d (Int.le_refl 0) (by omega)
  simp at this
  rw [this]
  rfl
/-- what a lay does -/
def stepL (near : Int) (bx : List D) (m : Mv) (t : D) : Int × List D × Mv :=
  if m.ph = 0 then (near, bx.set near.toNat t, ⟨m.n, 1, 0, .none, m.told⟩) else (near + 1, bx, ⟨m.n + 1, 0, 0, .none, m.told⟩)
theorem lay_at (near far : Int) (bx : List D) (mv t : D) (m : Mv) (h0 : 0 ≤ near) (h1 : near < bx.length) (h2 : bx.length ≤ 1000) :
    f_lay [stD near far bx mv, m.d, t] = .ok (.tuple [stD (stepL near bx m t).1 far (stepL near bx m t).2.1 mv, (stepL near bx m t).2.2.d]) := by
  obtain ⟨n, ph, f, x, told⟩ := m
  by_cases hp : ph = 0
  · subst hp
    simp [f_lay, m_lay, untup_def, stepL, Mv.d, cut_lo _ h0, cut_hi _ (show 0 ≤ near + 1 by omega)]
    rw [if_pos (by omega), if_pos (by omega), set_mid _ h0 h1]
  · simp [f_lay, m_lay, untup_def, stepL, Mv.d, hp]
theorem moved_lay {deeds : List (Option D)} {tries : List Int} {near far near' far' : Int} {bx bx' ms : List D} {m m' : Mv} {t : D} (hm : ixD ms 0 = .ok m.d) (hk : m.n ≠ deeds.length) (hd : ixD (deeds.map dd) m.n = .ok (dd (some t)))
    (ha : f_lay [stD near far bx (.tuple ms), m.d, t] = .ok (.tuple [stD near' far' bx' (.tuple ms), m'.d])) (hl : 0 < ms.length) (h2 : ms.length ≤ 1000) :
    f_moved [plD deeds tries, ru.d, stD near far bx (.tuple ms), .int 0] = .ok (stD near' far' bx' (.tuple (ms.set 0 m'.d))) := by
  simp only [dd] at hd
  simp [f_moved, m_moved, untup_def, plD, hm, hk, hd, ha, dLen, cut_lo _ (show (0 : Int) ≤ 0 by decide), cut_hi _ (show (0 : Int) ≤ 1 by decide)]
  rw [if_pos (by omega), cut3, if_pos (by simp)]
  have := set_mid (xs := ms) m'.d (Int.le_refl 0) (by omega)
  simp at this
  rw [this]
  rfl
/-! the law's small step -/
theorem small_try {deeds : List (Option D)} {tries : List Int} {near far far' w k : Int} {bx ms : List D} {m m' : Mv} {p' wh : D} (hw : 0 < w) (hm : ixD ms w = .ok m.d) (ht : ixD (.int deeds.length :: tries.map .int) w = .ok (.int k)) (hk : m.n ≠ k) (htl : tries.length ≤ 1000)
    (ha : f_law_try_part [ru.d, .int near, .int far, .tuple bx, m.d] = .ok (.tuple [.int far', p', wh])) (hp : (wh = .none ∧ p' = m'.d) ∨ ∃ y, wh = .tuple [y] ∧ p' = m.d ∧ m' = endM m y) (hl : w < ms.length) (h2 : ms.length ≤ 1000) (h3 : m.told.length ≤ 1000) :
    f_law_small_step [plD deeds tries, ru.d, stD near far bx (.tuple ms), .int w] = .ok (stD near far' bx (.tuple (ms.set w.toNat m'.d))) := by
  have hw0 : 0 ≤ w := by omega
  have l1 : tries.length ≤ 15999999 := by omega
  rcases hp with ⟨rfl, rfl⟩ | ⟨y, rfl, rfl, rfl⟩
  · simp [f_law_small_step, m_law_small_step, untup_def, plD, hw, hm, ht, hk, ha, dLen, l1, cut_lo _ hw0, cut_hi _ (show 0 ≤ w + 1 by omega)]
    rw [if_pos (by omega), if_pos (by omega), set_mid _ hw0 hl, if_pos (by omega)]
  · have l2 : m.told.length ≤ 15999999 := by omega
    simp [f_law_small_step, m_law_small_step, untup_def, plD, hw, hm, ht, hk, ha, dLen, l1, l2, cut_lo _ hw0, cut_hi _ (show 0 ≤ w + 1 by omega)]
    rw [if_pos (by omega), if_pos (by omega), set_mid _ hw0 hl, if_pos (by omega)]
    rfl
theorem set0 {ms : List D} (d : D) (hl : 0 < ms.length) : d :: ms.tail = ms.set 0 d := by
  cases ms with
  | nil => simp at hl
  | cons a b => rfl
theorem small_none {deeds : List (Option D)} {tries : List Int} {near far w k : Int} {bx ms : List D} {m : Mv} (hm : ixD ms w = .ok m.d) (ht : ixD (.int deeds.length :: tries.map .int) w = .ok (.int k)) (hk : m.n = k) (htl : tries.length ≤ 1000) :
    f_law_small_step [plD deeds tries, ru.d, stD near far bx (.tuple ms), .int w] = .ok .none := by
  have l1 : tries.length ≤ 15999999 := by omega
  simp [f_law_small_step, m_law_small_step, untup_def, plD, hm, ht, hk, dLen, l1]
  omega
theorem small_take {deeds : List (Option D)} {tries : List Int} {near far near' far' : Int} {bx ms : List D} {m m' : Mv} {p' wh : D} (hm : ixD ms 0 = .ok m.d) (hk : m.n ≠ deeds.length) (hd : ixD (deeds.map dd) m.n = .ok (dd none)) (htl : tries.length ≤ 1000)
    (ha : f_law_take_part [ru.d, .int near, .int far, .tuple bx, m.d] = .ok (.tuple [.int near', .int far', p', wh])) (hp : (wh = .none ∧ p' = m'.d) ∨ ∃ y, wh = .tuple [y] ∧ p' = m.d ∧ m' = endM m y) (hl : 0 < ms.length) (h2 : ms.length ≤ 1000) (h3 : m.told.length ≤ 1000) :
    f_law_small_step [plD deeds tries, ru.d, stD near far bx (.tuple ms), .int 0] = .ok (stD near' far' bx (.tuple (ms.set 0 m'.d))) := by
  have l1 : tries.length ≤ 15999999 := by omega
  simp only [dd] at hd
  rcases hp with ⟨rfl, rfl⟩ | ⟨y, rfl, rfl, rfl⟩
  · simp [f_law_small_step, m_law_small_step, untup_def, plD, hm, hk, hd, ha, dLen, l1, cut_lo _ (show (0 : Int) ≤ 0 by decide), cut_hi _ (show (0 : Int) ≤ 1 by decide)]
    rw [if_pos (by omega), set0 _ hl, if_pos (by omega)]
  · have l2 : m.told.length ≤ 15999999 := by omega
    simp [f_law_small_step, m_law_small_step, untup_def, plD, hm, hk, hd, ha, dLen, l1, l2, cut_lo _ (show (0 : Int) ≤ 0 by decide), cut_hi _ (show (0 : Int) ≤ 1 by decide)]
    rw [if_pos (by omega), set0 _ hl, if_pos (by omega)]
    rfl
theorem small_lay {deeds : List (Option D)} {tries : List Int} {near far : Int} {bx ms : List D} {m : Mv} {t : D} (hm : ixD ms 0 = .ok m.d) (hk : m.n ≠ deeds.length) (hd : ixD (deeds.map dd) m.n = .ok (dd (some t))) (htl : tries.length ≤ 1000)
    (hp : m.ph = 0 → m.f = 0 ∧ m.x = .none) (h0 : 0 ≤ near) (h1 : near < bx.length) (hb : bx.length ≤ 1000) (hl : 0 < ms.length) (h2 : ms.length ≤ 1000) (h3 : m.told.length ≤ 1000) :
    f_law_small_step [plD deeds tries, ru.d, stD near far bx (.tuple ms), .int 0] = .ok (stD (stepL near bx m t).1 far (stepL near bx m t).2.1 (.tuple (ms.set 0 (stepL near bx m t).2.2.d))) := by
  have l1 : tries.length ≤ 15999999 := by omega
  have l2 : m.told.length ≤ 16000000 := by omega
  simp only [dd] at hd
  by_cases hz : m.ph = 0
  · obtain ⟨hf, hx⟩ := hp hz
    obtain ⟨n, ph, f, x, told⟩ := m
    simp only at hz hf hx
    subst hz hf hx
    simp only [Mv.d] at hm
    simp [f_law_small_step, m_law_small_step, untup_def, plD, hm, hk, hd, dLen, l1, lay_take, stepL, cut2, cut_lo _ h0, cut_hi _ (show 0 ≤ near + 1 by omega), cut_lo _ (show (0 : Int) ≤ 0 by decide), cut_hi _ (show (0 : Int) ≤ 1 by decide)]
    rw [if_pos (by omega), if_pos (by omega), if_pos (by omega), set0 _ hl, set_mid _ h0 h1, if_pos (by omega)]
    rfl
  · simp [f_law_small_step, m_law_small_step, untup_def, plD, hm, hk, hd, dLen, l1, l2, lay_take, stepL, hz, cut_lo _ (show (0 : Int) ≤ 0 by decide), cut_hi _ (show (0 : Int) ≤ 1 by decide)]
    rw [if_pos (by omega), set0 _ hl, if_pos (by omega)]
    rfl
/-- what may be told: nothing, that it was lost, a whole number -/
def Sm (d : D) : Prop := d = .none ∨ d = .str "lost" ∨ ∃ i : Int, d = .int i ∧ i.natAbs < 2 ^ 101
theorem Sm.imm {d : D} (h : Sm d) : imm d = true := by
  rcases h with rfl | rfl | ⟨i, rfl, _⟩ <;> rfl
theorem sm_none : Sm .none := .inl rfl
theorem sm_gx {bx : List D} (h : ∀ d ∈ bx, Sm d) (i : Int) : Sm (gx bx i) := by
  unfold gx
  cases e : bx[i.toNat]? with
  | none => exact sm_none
  | some d => exact h d (List.mem_of_getElem? e)
structure Sg where
  near : Int
  far : Int
  bx : List D
  mv : List Mv
def Sg.d (s : Sg) (N : Nat) : D := stD s.near s.far (s.bx.take N) (.tuple (s.mv.map Mv.d))
structure OwnI (deeds : List (Option D)) (near far : Int) (m : Mv) : Prop where
  n0 : 0 ≤ m.n
  n1 : m.n ≤ deeds.length
  far0 : 0 ≤ far
  far1 : far ≤ m.n
  near1 : near ≤ m.n
  tl : m.told.length ≤ m.n
  sm : ∀ d ∈ m.told, Sm d
  sx : Sm m.x
  ph : (m.ph = 0 ∧ m.f = 0 ∧ m.x = .none ∧ 0 ≤ near) ∨ (m.ph = 1 ∧ (∃ t, deeds[m.n.toNat]? = some (some t)) ∧ m.f = 0 ∧ m.x = .none ∧ 0 ≤ near) ∨
    (deeds[m.n.toNat]? = some none ∧ near + 1 ≤ m.n ∧ -1 ≤ near ∧ ((m.ph = 1 ∧ m.f = 0 ∧ m.x = .none) ∨ (m.ph = 2 ∧ m.x = .none ∧ 0 ≤ m.f ∧ m.f ≤ m.n) ∨ ((m.ph = 3 ∨ m.ph = 4) ∧ m.f = near ∧ 0 ≤ m.f)))
structure ThI (M k : Int) (m : Mv) : Prop where
  n0 : 0 ≤ m.n
  n1 : m.n ≤ k
  tl : m.told.length ≤ m.n
  sm : ∀ d ∈ m.told, Sm d
  sx : Sm m.x
  ph : (m.ph = 0 ∧ m.f = 0 ∧ m.x = .none) ∨ (m.ph = 1 ∧ m.x = .none ∧ 0 ≤ m.f ∧ m.f ≤ M) ∨ (((m.ph = 2 ∧ m.x = .none) ∨ m.ph = 3) ∧ 0 ≤ m.f ∧ m.f + 1 ≤ M)
theorem ThI.mono {M M' k : Int} {m : Mv} (h : ThI M k m) (e : M ≤ M') : ThI M' k m :=
  ⟨h.n0, h.n1, h.tl, h.sm, h.sx, h.ph.imp id (Or.imp (fun ⟨a, b, c, d⟩ => ⟨a, b, c, by omega⟩) fun ⟨a, b, c⟩ => ⟨a, b, by omega⟩)⟩
structure Inv (deeds : List (Option D)) (tries : List Int) (s : Sg) (m0 : Mv) (rest : List Mv) : Prop where
  bl : s.bx.length = 8
  bs : ∀ d ∈ s.bx, Sm d
  mv : s.mv = m0 :: rest
  own : OwnI deeds s.near s.far m0
  rl : rest.length = tries.length
  th : ∀ (i : Nat) (m : Mv) (k : Int), rest[i]? = some m → tries[i]? = some k → ThI m0.n k m
/-- what a play may be -/
structure Pl (deeds : List (Option D)) (tries : List Int) : Prop where
  dl : deeds.length ≤ 6
  ds : ∀ t, some t ∈ deeds → Sm t
  tl : tries.length ≤ 2
  tk : ∀ k ∈ tries, 0 ≤ k ∧ k ≤ 3
def step (ru : Ru) (deeds : List (Option D)) (tries : List Int) (s : Sg) (w : Nat) : Option Sg :=
  match s.mv with
  | [] => none
  | m0 :: rest => match w with
    | 0 => match deeds[m0.n.toNat]? with
      | none => none
      | some none => some ⟨(stepO ru s.near s.far s.bx m0).1, (stepO ru s.near s.far s.bx m0).2.1, s.bx, (stepO ru s.near s.far s.bx m0).2.2 :: rest⟩
      | some (some t) => some ⟨(stepL s.near s.bx m0 t).1, s.far, (stepL s.near s.bx m0 t).2.1, (stepL s.near s.bx m0 t).2.2 :: rest⟩
    | i + 1 => match rest[i]?, tries[i]? with
      | some m, some k => if m.n = k then none else some ⟨s.near, (stepT ru s.near s.far s.bx m).1, s.bx, m0 :: rest.set i (stepT ru s.near s.far s.bx m).2⟩
      | _, _ => none
/-! ### the steps keep the order -/
section
variable {near far n p f M k : Int} {bx told : List D} {x t : D} {deeds : List (Option D)}
theorem OwnI.of (n0 : 0 ≤ n) (n1 : n ≤ deeds.length) (far0 : 0 ≤ far) (far1 : far ≤ n) (near1 : near ≤ n) (tl : told.length ≤ n) (sm : ∀ d ∈ told, Sm d) (sx : Sm x)
    (ph : (p = 0 ∧ f = 0 ∧ x = .none ∧ 0 ≤ near) ∨ (p = 1 ∧ (∃ t, deeds[n.toNat]? = some (some t)) ∧ f = 0 ∧ x = .none ∧ 0 ≤ near) ∨
      (deeds[n.toNat]? = some none ∧ near + 1 ≤ n ∧ -1 ≤ near ∧ ((p = 1 ∧ f = 0 ∧ x = .none) ∨ (p = 2 ∧ x = .none ∧ 0 ≤ f ∧ f ≤ n) ∨ ((p = 3 ∨ p = 4) ∧ f = near ∧ 0 ≤ f)))) : OwnI deeds near far ⟨n, p, f, x, told⟩ := ⟨n0, n1, far0, far1, near1, tl, sm, sx, ph⟩
theorem ThI.of (n0 : 0 ≤ n) (n1 : n ≤ k) (tl : told.length ≤ n) (sm : ∀ d ∈ told, Sm d) (sx : Sm x)
    (ph : (p = 0 ∧ f = 0 ∧ x = .none) ∨ (p = 1 ∧ x = .none ∧ 0 ≤ f ∧ f ≤ M) ∨ (((p = 2 ∧ x = .none) ∨ p = 3) ∧ 0 ≤ f ∧ f + 1 ≤ M)) : ThI M k ⟨n, p, f, x, told⟩ := ⟨n0, n1, tl, sm, sx, ph⟩
theorem endM_def : endM ⟨n, p, f, x, told⟩ t = ⟨n + 1, 0, 0, .none, told ++ [t]⟩ := rfl
theorem stepO0 : stepO ru near far bx ⟨n, 0, f, x, told⟩ = (near - 1, far, ⟨n, 1, 0, .none, told⟩) := by simp [stepO]
theorem stepO1 : stepO ru near far bx ⟨n, 1, f, x, told⟩ = (near, far, ⟨n, 2, far, .none, told⟩) := by simp [stepO]
theorem stepO2 : stepO ru near far bx ⟨n, 2, f, x, told⟩ = if near < f then (f, far, ⟨n + 1, 0, 0, .none, told ++ [.none]⟩) else if f < near then (near, far, ⟨n + 1, 0, 0, .none, told ++ [gx bx near]⟩) else (near, far, ⟨n, if ru.ba = true then 4 else 3, f, gx bx near, told⟩) := by simp [stepO, endM]
theorem stepO3 : stepO ru near far bx ⟨n, 3, f, x, told⟩ = if far = f then (near, far + 1, ⟨n, 4, f, x, told⟩) else (near, far, ⟨n, 4, f, .none, told⟩) := by simp [stepO]
theorem stepO4 : stepO ru near far bx ⟨n, 4, f, x, told⟩ = (f + 1, far, ⟨n + 1, 0, 0, .none, told ++ [x]⟩) := by simp [stepO, endM]
theorem stepT0 : stepT ru near far bx ⟨n, 0, f, x, told⟩ = (far, ⟨n, 1, far, .none, told⟩) := by simp [stepT]
theorem stepT1 : stepT ru near far bx ⟨n, 1, f, x, told⟩ = (far, if near ≤ f then ⟨n + 1, 0, 0, .none, told ++ [.none]⟩ else ⟨n, 2, f, .none, told⟩) := by simp [stepT, endM]
theorem stepT2 : stepT ru near far bx ⟨n, 2, f, x, told⟩ = (far, ⟨n, 3, f, gx bx f, told⟩) := by simp [stepT]
theorem stepT3 : stepT ru near far bx ⟨n, 3, f, x, told⟩ = if far = f ∨ ru.bl = true then (f + 1, ⟨n + 1, 0, 0, .none, told ++ [x]⟩) else (far, ⟨n + 1, 0, 0, .none, told ++ [.str "lost"]⟩) := by simp [stepT, endM]
theorem stepL0 : stepL near bx ⟨n, 0, f, x, told⟩ t = (near, bx.set near.toNat t, ⟨n, 1, 0, .none, told⟩) := by simp [stepL]
theorem stepL1 : stepL near bx ⟨n, 1, f, x, told⟩ t = (near + 1, bx, ⟨n + 1, 0, 0, .none, told⟩) := by simp [stepL]
theorem sm_snoc (sm : ∀ d ∈ told, Sm d) {y : D} (hy : Sm y) : ∀ d ∈ told ++ [y], Sm d := fun d hd => (List.mem_append.mp hd).elim (sm d) fun q => by rw [List.mem_singleton.mp q]; exact hy
end
theorem own_take {deeds : List (Option D)} {near far : Int} {bx : List D} {m : Mv} (I : OwnI deeds near far m) (bs : ∀ d ∈ bx, Sm d) (hd : deeds[m.n.toNat]? = some none) :
    OwnI deeds (stepO ru near far bx m).1 (stepO ru near far bx m).2.1 (stepO ru near far bx m).2.2 ∧ m.n ≤ (stepO ru near far bx m).2.2.n := by
  have hn : m.n.toNat < deeds.length := (List.getElem?_eq_some_iff.mp hd).1
  obtain ⟨n0, n1, far0, far1, near1, tl, sm, sx, ph⟩ := I
  obtain ⟨n, p, f, x, told⟩ := m
  simp only at *
  have tl2 : ∀ y : D, ((told ++ [y]).length : Int) ≤ n + 1 := fun y => by simp; omega
  have fin : ∀ (nr fr : Int) (y : D), Sm y → 0 ≤ nr → nr ≤ n + 1 → 0 ≤ fr → fr ≤ n + 1 → OwnI deeds nr fr ⟨n + 1, 0, 0, .none, told ++ [y]⟩ ∧ n ≤ n + 1 := fun nr fr y hy a b c d =>
    ⟨.of (by omega) (by omega) c d b (tl2 y) (sm_snoc sm hy) sm_none (.inl ⟨rfl, rfl, rfl, a⟩), by omega⟩
  rcases ph with ⟨rfl, rfl, rfl, h0⟩ | ⟨_, ⟨t, ht⟩, _⟩ | ⟨_, h1, h2, ph⟩
  · rw [stepO0]
    exact ⟨.of n0 n1 far0 far1 (by omega) tl sm sm_none (.inr (.inr ⟨hd, by omega, by omega, .inl ⟨rfl, rfl, rfl⟩⟩)), Int.le_refl _⟩
  · rw [hd] at ht; cases ht
  · rcases ph with ⟨rfl, rfl, rfl⟩ | ⟨rfl, rfl, h3, h4⟩ | ⟨rfl | rfl, rfl, h3⟩
    · rw [stepO1]
      exact ⟨.of n0 n1 far0 far1 near1 tl sm sm_none (.inr (.inr ⟨hd, h1, h2, .inr (.inl ⟨rfl, rfl, far0, far1⟩)⟩)), Int.le_refl _⟩
    · rw [stepO2]
      by_cases c1 : near < f
      · rw [if_pos c1]
        exact fin _ _ _ sm_none h3 (by omega) far0 (by dsimp only; omega)
      · rw [if_neg c1]
        by_cases c2 : f < near
        · rw [if_pos c2]
          exact fin _ _ _ (sm_gx bs _) (by omega) (by omega) far0 (by dsimp only; omega)
        · rw [if_neg c2]
          have e : f = near := by omega
          subst e
          have hph : (if ru.ba = true then (4 : Int) else 3) = 3 ∨ (if ru.ba = true then (4 : Int) else 3) = 4 := by cases ru.ba <;> simp
          exact ⟨.of n0 n1 far0 far1 near1 tl sm (sm_gx bs _) (.inr (.inr ⟨hd, h1, h2, .inr (.inr ⟨hph, rfl, h3⟩)⟩)), Int.le_refl _⟩
    · rw [stepO3]
      by_cases c1 : far = f
      · rw [if_pos c1]
        exact ⟨.of n0 n1 (by dsimp only; omega) (by dsimp only; omega) near1 tl sm sx (.inr (.inr ⟨hd, h1, h2, .inr (.inr ⟨.inr rfl, rfl, h3⟩)⟩)), Int.le_refl _⟩
      · rw [if_neg c1]
        exact ⟨.of n0 n1 far0 far1 near1 tl sm sm_none (.inr (.inr ⟨hd, h1, h2, .inr (.inr ⟨.inr rfl, rfl, h3⟩)⟩)), Int.le_refl _⟩
    · rw [stepO4]
      exact fin _ _ _ sx (by omega) (by omega) far0 (by dsimp only; omega)
theorem own_lay {deeds : List (Option D)} {near far : Int} {bx : List D} {m : Mv} {t : D} (I : OwnI deeds near far m) (hd : deeds[m.n.toNat]? = some (some t)) :
    OwnI deeds (stepL near bx m t).1 far (stepL near bx m t).2.2 ∧ m.n ≤ (stepL near bx m t).2.2.n ∧ 0 ≤ near ∧ (m.ph = 0 → m.f = 0 ∧ m.x = .none) ∧ near < deeds.length := by
  have hn : m.n.toNat < deeds.length := (List.getElem?_eq_some_iff.mp hd).1
  obtain ⟨n0, n1, far0, far1, near1, tl, sm, sx, ph⟩ := I
  obtain ⟨n, p, f, x, told⟩ := m
  simp only at *
  rcases ph with ⟨rfl, rfl, rfl, h0⟩ | ⟨rfl, ⟨t, ht⟩, rfl, rfl, h0⟩ | ⟨h, _⟩
  · rw [stepL0]
    exact ⟨.of n0 n1 far0 far1 near1 tl sm sm_none (.inr (.inl ⟨rfl, ⟨t, hd⟩, rfl, rfl, h0⟩)), Int.le_refl _, h0, fun _ => ⟨rfl, rfl⟩, by omega⟩
  · rw [stepL1]
    exact ⟨.of (by omega) (by omega) far0 (by omega) (by omega) (by omega) sm sm_none (.inl ⟨rfl, rfl, rfl, by omega⟩), by show n ≤ n + 1; omega, h0, fun h => ⟨rfl, rfl⟩, by omega⟩
  · rw [hd] at h; cases h
theorem th_step {M k near far : Int} {bx : List D} {m : Mv} (I : ThI M k m) (bs : ∀ d ∈ bx, Sm d) (hk : m.n ≠ k) (hf0 : 0 ≤ far) (hfM : far ≤ M) (hnM : near ≤ M) :
    ThI M k (stepT ru near far bx m).2 ∧ 0 ≤ (stepT ru near far bx m).1 ∧ (stepT ru near far bx m).1 ≤ M := by
  obtain ⟨n0, n1, tl, sm, sx, ph⟩ := I
  obtain ⟨n, p, f, x, told⟩ := m
  simp only at *
  have fin : ∀ (y : D), Sm y → ThI M k ⟨n + 1, 0, 0, .none, told ++ [y]⟩ := fun y hy =>
    .of (by omega) (by omega) (by simp; omega) (sm_snoc sm hy) sm_none (.inl ⟨rfl, rfl, rfl⟩)
  rcases ph with ⟨rfl, rfl, rfl⟩ | ⟨rfl, rfl, h3, h4⟩ | ⟨⟨rfl, rfl⟩ | rfl, h3, h4⟩
  · rw [stepT0]
    exact ⟨.of n0 n1 tl sm sm_none (.inr (.inl ⟨rfl, rfl, hf0, hfM⟩)), hf0, hfM⟩
  · rw [stepT1]
    refine ⟨?_, hf0, hfM⟩
    by_cases c : near ≤ f
    · rw [if_pos c]; exact fin _ sm_none
    · rw [if_neg c]; exact .of n0 n1 tl sm sm_none (.inr (.inr ⟨.inl ⟨rfl, rfl⟩, h3, by omega⟩))
  · rw [stepT2]
    exact ⟨.of n0 n1 tl sm (sm_gx bs _) (.inr (.inr ⟨.inr rfl, h3, h4⟩)), hf0, hfM⟩
  · rw [stepT3]
    by_cases c : far = f ∨ ru.bl = true
    · rw [if_pos c]; exact ⟨fin _ sx, by simp only; omega, by simp only; omega⟩
    · rw [if_neg c]; exact ⟨fin _ (.inr (.inl rfl)), hf0, hfM⟩
/-! ### both programs' steps, told by the one -/
theorem map_ix {ms : List Mv} {i : Nat} {m : Mv} (h : ms[i]? = some m) : ixD (ms.map Mv.d) (i : Int) = .ok m.d := ixD_nat (by omega) (by rw [Int.toNat_natCast, List.getElem?_map, h]; rfl)
theorem ints_ix {ns : List Int} {i : Nat} {k : Int} (h : ns[i]? = some k) : ixD (ns.map .int) (i : Int) = .ok (.int k) := ixD_nat (by omega) (by rw [Int.toNat_natCast, List.getElem?_map, h]; rfl)
theorem deed_ix {deeds : List (Option D)} {n : Int} {x : Option D} (h0 : 0 ≤ n) (h : deeds[n.toNat]? = some x) : ixD (deeds.map dd) n = .ok (dd x) := ixD_nat h0 (by rw [List.getElem?_map, h]; rfl)
theorem gx_take {bx : List D} {N : Nat} {i : Int} (h0 : 0 ≤ i) (h : i < N) : gx (bx.take N) i = gx bx i := by
  unfold gx
  rw [List.getElem?_take, if_pos (by omega)]
theorem stepT_take {near far : Int} {bx : List D} {N : Nat} {m : Mv} (h : m.ph = 2 → 0 ≤ m.f ∧ m.f < N) : stepT ru near far (bx.take N) m = stepT ru near far bx m := by
  unfold stepT
  by_cases h2 : m.ph = 2
  · rw [gx_take (h h2).1 (h h2).2]
  · simp [h2]
theorem stepO_take {near far : Int} {bx : List D} {N : Nat} {m : Mv} (h : m.ph = 2 → near < m.f ∨ (0 ≤ near ∧ near < N)) : stepO ru near far (bx.take N) m = stepO ru near far bx m := by
  unfold stepO
  by_cases h2 : m.ph = 2
  · rcases h h2 with h | h
    · simp [h2, h]
    · rw [gx_take h.1 h.2]
  · simp [h2]
theorem cons_ix {a : D} {xs : List D} {i : Nat} {x : D} (h : ixD xs (i : Int) = .ok x) : ixD (a :: xs) ((i + 1 : Nat) : Int) = .ok x := by
  unfold ixD atI ixN at h ⊢
  by_cases hl : i < xs.length
  · rw [if_pos (by omega), if_pos (by omega)] at h
    rw [if_pos (by omega), if_pos (by simp; omega)]
    simpa using h
  · rw [if_pos (by omega), if_neg (by omega)] at h
    cases h
theorem both {deeds : List (Option D)} {tries : List Int} {s : Sg} {m0 : Mv} {rest : List Mv} (P : Pl deeds tries) (I : Inv deeds tries s m0 rest) (w : Nat) (hw : w ≤ tries.length) {N : Nat} (hN : deeds.length ≤ N) (hN8 : N ≤ 8) :
    (match step ru deeds tries s w with
      | none => f_moved [plD deeds tries, ru.d, s.d N, .int w] = .ok .none ∧ f_law_small_step [plD deeds tries, ru.d, s.d N, .int w] = .ok .none
      | some s' => f_moved [plD deeds tries, ru.d, s.d N, .int w] = .ok (s'.d N) ∧ (N = 8 → f_law_small_step [plD deeds tries, ru.d, s.d N, .int w] = .ok (s'.d N)) ∧ ∃ m0' rest', Inv deeds tries s' m0' rest') := by
  obtain ⟨bl, bs, mv, own, rl, th⟩ := I
  obtain ⟨near, far, bx, ms⟩ := s
  simp only at bl bs mv own
  subst mv
  have hdl := P.dl
  have htl := P.tl
  have hM := own.n1
  have tlb : (bx.take N).length = N := by rw [List.length_take]; omega
  have tol : m0.told.length ≤ 1000 := by have := own.tl; omega
  have ml : ((m0 :: rest).map Mv.d).length = tries.length + 1 := by simp [rl]
  cases w with
  | zero =>
    have hm : ixD ((m0 :: rest).map Mv.d) 0 = .ok m0.d := by simp
    have hk : ∀ x, deeds[m0.n.toNat]? = some x → m0.n ≠ deeds.length := fun x h => by
      have := (List.getElem?_eq_some_iff.mp h).1
      omega
    cases hd : deeds[m0.n.toNat]? with
    | none =>
      have es : step ru deeds tries ⟨near, far, bx, m0 :: rest⟩ 0 = none := by simp [step, hd]
      rw [es]
      have e : m0.n = deeds.length := by
        have := List.getElem?_eq_none_iff.mp hd
        have := own.n0
        omega
      exact ⟨moved_none_own hm e, small_none hm (by simp) e (by omega)⟩
    | some x =>
      cases x with
      | none =>
        have es : step ru deeds tries ⟨near, far, bx, m0 :: rest⟩ 0 = some ⟨(stepO ru near far bx m0).1, (stepO ru near far bx m0).2.1, bx, (stepO ru near far bx m0).2.2 :: rest⟩ := by simp [step, hd]
        rw [es]
        obtain ⟨h1, h2⟩ := own_take (bx := bx) own bs hd
        have hn : m0.n.toNat < deeds.length := (List.getElem?_eq_some_iff.mp hd).1
        have key : m0.ph = 2 → near < m0.f ∨ (0 ≤ near ∧ near < N) := fun e => by
          rcases own.ph with ⟨q, _⟩ | ⟨q, _⟩ | ⟨_, q1, q2, q⟩
          · rw [e] at q; cases q
          · rw [e] at q; cases q
          · have := own.n0
            rcases q with ⟨q, _⟩ | ⟨_, _, q3, q4⟩ | ⟨q, _⟩
            · rw [e] at q; cases q
            · omega
            · rw [e] at q; rcases q with q | q <;> cases q
        have phs : m0.ph = 0 ∨ m0.ph = 1 ∨ m0.ph = 2 ∨ m0.ph = 3 ∨ m0.ph = 4 := by
          rcases own.ph with ⟨q, _⟩ | ⟨q, _⟩ | ⟨_, q1, q2, ⟨q, _⟩ | ⟨q, _⟩ | ⟨q | q, _⟩⟩ <;> simp [q]
        have low : m0.ph = 0 → m0.x = .none ∧ m0.f = 0 := fun e => by
          rcases own.ph with ⟨q, q2, q3, _⟩ | ⟨q, _⟩ | ⟨_, q1, q2, ⟨q, _⟩ | ⟨q, _⟩ | ⟨q | q, _⟩⟩
          · exact ⟨q3, q2⟩
          all_goals rw [e] at q; cases q
        have one : m0.ph = 1 → m0.x = .none := fun e => by
          rcases own.ph with ⟨q, q2, q3, _⟩ | ⟨q, _, _, q3, _⟩ | ⟨_, q1, q2, ⟨q, _, q3⟩ | ⟨q, _⟩ | ⟨q | q, _⟩⟩
          · exact q3
          · exact q3
          · exact q3
          all_goals rw [e] at q; cases q
        have hhas : 0 ≤ near ∧ near < N → Has (bx.take N) near := fun h => has_at h.1 (by rw [tlb]; exact h.2)
        refine ⟨?_, fun h8 => ?_, _, rest, bl, bs, rfl, h1, rl, fun i m k e1 e2 => (th i m k e1 e2).mono h2⟩
        · refine moved_take (m := m0) hm (hk _ hd) (deed_ix own.n0 hd) ?_ (by rw [ml]; omega) (by rw [ml]; omega)
          rw [take_at near far (bx.take N) _ m0 ?_ tol, stepO_take key]
          rcases phs with e | e | e | e | e
          · exact .inl e
          · exact .inr (.inl e)
          · exact .inr (.inr (.inl ⟨e, (key e).imp id hhas⟩))
          · exact .inr (.inr (.inr (.inl e)))
          · exact .inr (.inr (.inr (.inr e)))
        · obtain ⟨a', b', p', wh, q1, q2, q3, q4⟩ := take_part_at near far (bx.take N) m0 (by
            rcases phs with e | e | e | e | e
            · exact .inl ⟨e, low e⟩
            · exact .inr (.inl ⟨e, one e⟩)
            · refine .inr (.inr (.inl ⟨e, (key e).symm.imp hhas fun h => ⟨h, ?_⟩⟩))
              by_cases h0 : 0 ≤ near
              · exact ⟨_, has_at h0 (by rw [tlb]; have := own.near1; omega)⟩
              · have e1 : near = -1 := by
                  rcases own.ph with ⟨q, _, _, q0⟩ | ⟨q, _, _, _, q0⟩ | ⟨_, _, q0, _⟩ <;> omega
                subst e1
                cases hz : (bx.take N)[N - 1]? with
                | none =>
                  have := List.getElem?_eq_none_iff.mp hz
                  omega
                | some y =>
                  refine ⟨y, ?_⟩
                  unfold ixD atI ixN
                  rw [if_neg (by omega), if_pos (by rw [tlb]; omega), tlb]
                  rw [show ((-1 : Int) + (N : Int)).toNat = N - 1 by omega]
                  simp [hz]
            · exact .inr (.inr (.inr (.inl e)))
            · exact .inr (.inr (.inr (.inr e))))
          subst q2 q3
          rw [stepO_take key] at q1 q4
          exact small_take (m := m0) hm (hk _ hd) (deed_ix own.n0 hd) (by omega) q1 q4 (by rw [ml]; omega) (by rw [ml]; omega) tol
      | some t =>
        have es : step ru deeds tries ⟨near, far, bx, m0 :: rest⟩ 0 = some ⟨(stepL near bx m0 t).1, far, (stepL near bx m0 t).2.1, (stepL near bx m0 t).2.2 :: rest⟩ := by simp [step, hd]
        rw [es]
        obtain ⟨h1, h2, h3, h4, h5⟩ := own_lay (bx := bx) own hd
        have et : (stepL near (bx.take N) m0 t).1 = (stepL near bx m0 t).1 ∧ (stepL near (bx.take N) m0 t).2.1 = (stepL near bx m0 t).2.1.take N ∧ (stepL near (bx.take N) m0 t).2.2 = (stepL near bx m0 t).2.2 := by
          unfold stepL
          split
          · exact ⟨rfl, (List.take_set ..).symm, rfl⟩
          · exact ⟨rfl, rfl, rfl⟩
        have smt := P.ds t (List.mem_of_getElem? hd)
        refine ⟨?_, fun _ => ?_, _, rest, ?_, ?_, rfl, h1, rl, fun i m k e1 e2 => (th i m k e1 e2).mono h2⟩
        · have := moved_lay (ru := ru) (deeds := deeds) (tries := tries) (m := m0) (near := near) (far := far) (bx := bx.take N) hm (hk _ hd) (deed_ix own.n0 hd) (lay_at near far (bx.take N) _ t m0 h3 (by rw [tlb]; omega) (by rw [tlb]; omega)) (by rw [ml]; omega) (by rw [ml]; omega)
          rw [et.1, et.2.1, et.2.2] at this
          exact this
        · have := small_lay (ru := ru) (deeds := deeds) (tries := tries) (m := m0) (near := near) (far := far) (bx := bx.take N) hm (hk _ hd) (deed_ix own.n0 hd) (by omega) h4 h3 (by rw [tlb]; omega) (by rw [tlb]; omega) (by rw [ml]; omega) (by rw [ml]; omega) tol
          rw [et.1, et.2.1, et.2.2] at this
          exact this
        · unfold stepL
          split
          · simp [bl]
          · exact bl
        · unfold stepL
          split
          · intro d hd
            rcases List.mem_or_eq_of_mem_set hd with h | h
            · exact bs d h
            · rw [h]; exact smt
          · exact bs
  | succ i =>
    have hi : i < rest.length := by rw [rl]; omega
    have hi2 : i < tries.length := by omega
    have em : rest[i]? = some rest[i] := List.getElem?_eq_getElem hi
    have ek : tries[i]? = some tries[i] := List.getElem?_eq_getElem hi2
    generalize rest[i] = m at em
    generalize tries[i] = k at ek
    have T := th i m k em ek
    have kb := P.tk k (List.mem_of_getElem? ek)
    have tm : m.told.length ≤ 1000 := by have := T.tl; have := T.n1; omega
    have hw0 : (0 : Int) < ((i + 1 : Nat) : Int) := by omega
    have hm : ixD ((m0 :: rest).map Mv.d) ((i + 1 : Nat) : Int) = .ok m.d := map_ix (by simpa using em)
    have ht : ixD (tries.map .int) (((i + 1 : Nat) : Int) - 1) = .ok (.int k) := by
      rw [show (((i + 1 : Nat) : Int) - 1) = (i : Int) by omega]
      exact ints_ix ek
    by_cases hk : m.n = k
    · have es : step ru deeds tries ⟨near, far, bx, m0 :: rest⟩ (i + 1) = none := by simp [step, em, ek, hk]
      rw [es]
      exact ⟨moved_none_thief hw0 hm ht hk, small_none hm (cons_ix (ints_ix ek)) hk (by omega)⟩
    · have es : step ru deeds tries ⟨near, far, bx, m0 :: rest⟩ (i + 1) = some ⟨near, (stepT ru near far bx m).1, bx, m0 :: rest.set i (stepT ru near far bx m).2⟩ := by simp [step, em, ek, hk]
      rw [es]
      obtain ⟨h1, h2, h3⟩ := th_step (bx := bx) T bs hk own.far0 own.far1 own.near1
      have key : m.ph = 2 → 0 ≤ m.f ∧ m.f < N := fun e => by
        rcases T.ph with ⟨q, _⟩ | ⟨q, _⟩ | ⟨_, q1, q2⟩
        · rw [e] at q; cases q
        · rw [e] at q; cases q
        · omega
      have phs : (m.ph = 0 ∧ m.x = .none) ∨ (m.ph = 1 ∧ m.x = .none) ∨ (m.ph = 2 ∧ Has (bx.take N) m.f) ∨ m.ph = 3 := by
        rcases T.ph with ⟨q, _, q2⟩ | ⟨q, q2, _⟩ | ⟨⟨q, _⟩ | q, q1, q2⟩
        · exact .inl ⟨q, q2⟩
        · exact .inr (.inl ⟨q, q2⟩)
        · exact .inr (.inr (.inl ⟨q, has_at q1 (by rw [tlb]; omega)⟩))
        · exact .inr (.inr (.inr q))
      have es : ∀ m' : Mv, ((m0 :: rest).map Mv.d).set ((i + 1 : Nat) : Int).toNat m'.d = (m0 :: rest.set i m').map Mv.d := fun m' => by
        rw [Int.toNat_natCast]
        simp [List.map_set]
      refine ⟨?_, fun h8 => ?_, m0, rest.set i (stepT ru near far bx m).2, bl, bs, rfl, ⟨own.n0, own.n1, h2, h3, own.near1, own.tl, own.sm, own.sx, own.ph⟩, by simp [rl], ?_⟩
      · have := moved_thief (deeds := deeds) (near := near) (far := far) (bx := bx.take N) (m' := (stepT ru near far bx m).2) hw0 hm ht hk (by
          rw [att_at near far (bx.take N) _ m (phs.imp (·.1) (Or.imp (·.1) id)) tm, stepT_take key]) (by rw [ml]; omega) (by rw [ml]; omega)
        rw [es] at this
        exact this
      · obtain ⟨f', p', wh, q1, q2, q3⟩ := try_part_at near far (bx.take N) m phs
        subst q2
        rw [stepT_take key] at q1 q3
        have := small_try (deeds := deeds) hw0 hm (cons_ix (ints_ix ek)) hk (by omega) q1 q3 (by rw [ml]; omega) (by rw [ml]; omega) tm
        rw [es] at this
        exact this
      · intro j mm kk e1 e2
        by_cases hj : i = j
        · subst hj
          rw [List.getElem?_set_self hi] at e1
          cases e1
          rw [ek] at e2
          cases e2
          exact h1
        · rw [List.getElem?_set_ne hj] at e1
          exact th j mm kk e1 e2
variable {deeds : List (Option D)} {tries : List Int}
/-! ### what is told -/
def told (s : Sg) : D := .tuple [.list (s.mv.map fun m => .list m.told), .list ((s.bx.drop s.far.toNat).take ((max s.near s.far).toNat - s.far.toNat))]
theorem cut_both (xs : List D) {i j : Int} (h : 0 ≤ i) (hj : 0 ≤ j) (hi : i ≤ xs.length) (hj2 : j ≤ xs.length) : Bv.cutD xs (some i) (some j) = (xs.drop i.toNat).take (j.toNat - i.toNat) := by
  unfold Bv.cutD
  rw [six_nat _ _ h, six_nat _ _ hj, Nat.min_eq_left (by omega), Nat.min_eq_left (by omega)]
theorem take_cut (bx : List D) {N a b : Nat} (h : b ≤ N) : ((bx.take N).drop a).take (b - a) = (bx.drop a).take (b - a) := by
  rw [List.drop_take, List.take_take, Nat.min_eq_left (by omega)]
theorem bounds {s : Sg} {m0 : Mv} {rest : List Mv} (P : Pl deeds tries) (I : Inv deeds tries s m0 rest) : 0 ≤ s.far ∧ s.far ≤ deeds.length ∧ s.near ≤ deeds.length := by
  have := I.own.far0
  have := I.own.far1
  have := I.own.near1
  have := I.own.n1
  omega
theorem toldS {s : Sg} {m0 : Mv} {rest : List Mv} (I : Inv deeds tries s m0 rest) : ∀ m ∈ s.mv, (∀ d ∈ m.told, Sm d) := by
  intro m hm
  rw [I.mv] at hm
  rcases List.mem_cons.mp hm with rfl | hm
  · exact I.own.sm
  · obtain ⟨i, hi⟩ := List.getElem?_of_mem hm
    have hl := (List.getElem?_eq_some_iff.mp hi).1
    have hk : tries[i]? = some (tries[i]'(by rw [← I.rl]; exact hl)) := List.getElem?_eq_getElem _
    exact (I.th i m _ hi hk).sm
/-! ### the beginning -/
def init (tries : List Int) : Sg := ⟨0, 0, List.replicate 8 .none, List.replicate (1 + tries.length) ⟨0, 0, 0, .none, []⟩⟩
theorem init_inv (P : Pl deeds tries) : Inv deeds tries (init tries) ⟨0, 0, 0, .none, []⟩ (List.replicate tries.length ⟨0, 0, 0, .none, []⟩) where
  bl := rfl
  bs := fun d hd => by rw [List.eq_of_mem_replicate hd]; exact sm_none
  mv := by unfold init; rw [Nat.add_comm]; rfl
  own := .of (by omega) (by omega) (by unfold init; dsimp only; omega) (by unfold init; dsimp only; omega) (by unfold init; dsimp only; omega) (by simp) (by simp) sm_none (.inl ⟨rfl, rfl, rfl, by unfold init; dsimp only; omega⟩)
  rl := by simp
  th := fun i m k e1 e2 => by
    rw [List.getElem?_replicate] at e1
    split at e1
    · cases e1
      have := P.tk k (List.mem_of_getElem? e2)
      exact .of (by omega) (by omega) (by simp) (by simp) sm_none (.inl ⟨rfl, rfl, rfl⟩)
    · cases e1
theorem first_at (P : Pl deeds tries) : f_first_state [plD deeds tries] = .ok ((init tries).d deeds.length) := by
  have dl := P.dl
  have tl := P.tl
  have e0 : min deeds.length 8 = deeds.length := by omega
  simp [f_first_state, m_first_state, untup_def, plD, dLen, dMul_t, init, Sg.d, Mv.d, e0]
  rw [if_pos (by omega)]
  simp [show (1 + (tries.length : Int)).toNat = 1 + tries.length by omega]
  rw [if_pos (by omega), show List.take deeds.length [PyData.none, PyData.none, PyData.none, PyData.none, PyData.none, PyData.none, PyData.none, PyData.none] = List.replicate deeds.length PyData.none by
    rw [show [PyData.none, PyData.none, PyData.none, PyData.none, PyData.none, PyData.none, PyData.none, PyData.none] = List.replicate 8 PyData.none from rfl, List.take_replicate, e0]]
theorem law_first_at (P : Pl deeds tries) : f_law_first [plD deeds tries] = .ok ((init tries).d 8) := by
  have tl := P.tl
  simp [f_law_first, m_law_first, untup_def, plD, dLen, dMul_t, init, Sg.d, Mv.d]
  rw [if_pos (by omega)]
  simp [show (1 + (tries.length : Int)).toNat = 1 + tries.length by omega]
/-! ### a weaving -/
def exec (ru : Ru) (deeds : List (Option D)) (tries : List Int) : List Nat → Sg → Option Sg
  | [], s => some s
  | w :: ws, s => (step ru deeds tries s w).bind (exec ru deeds tries ws)
theorem exec_snoc (ws : List Nat) (w : Nat) : ∀ s, exec ru deeds tries (ws ++ [w]) s = (exec ru deeds tries ws s).bind fun s' => step ru deeds tries s' w := by
  induction ws with
  | nil => intro s; show (step ru deeds tries s w).bind (exec ru deeds tries []) = step ru deeds tries s w; cases step ru deeds tries s w <;> rfl
  | cons v ws ih =>
    intro s
    show (step ru deeds tries s v).bind (exec ru deeds tries (ws ++ [w])) = ((step ru deeds tries s v).bind (exec ru deeds tries ws)).bind _
    cases step ru deeds tries s v with
    | none => rfl
    | some s' => exact ih s'
def Good (deeds : List (Option D)) (tries : List Int) (s : Sg) : Prop := ∃ m0 rest, Inv deeds tries s m0 rest
theorem good_step {s s' : Sg} {w : Nat} (P : Pl deeds tries) (G : Good deeds tries s) (hw : w ≤ tries.length) (e : step ru deeds tries s w = some s') : Good deeds tries s' := by
  obtain ⟨m0, rest, I⟩ := G
  have := both (ru := ru) P I w hw (Nat.le_refl _) (show deeds.length ≤ 8 by have := P.dl; omega)
  rw [e] at this
  exact this.2.2
theorem good_exec {ws : List Nat} (P : Pl deeds tries) : ∀ {s s' : Sg}, Good deeds tries s → (∀ w ∈ ws, w ≤ tries.length) → exec ru deeds tries ws s = some s' → Good deeds tries s' := by
  induction ws with
  | nil => intro s s' G _ e; cases e; exact G
  | cons w ws ih =>
    intro s s' G hw e
    unfold exec at e
    cases e1 : step ru deeds tries s w with
    | none => rw [e1] at e; cases e
    | some s1 => rw [e1] at e; exact ih (good_step P G (hw w List.mem_cons_self) e1) (fun v hv => hw v (List.mem_cons_of_mem _ hv)) e
theorem is_int (i : Int) : isiD "int" (.int i) = .ok (.bool true) := by
  have : kitB "int" "int" = some true := by decide +kernel
  show (match kitB "int" "int" with | some b => Rv.ok (PyData.bool b) | none => .un) = _
  rw [this]
theorem is_bool (i : Int) : isiD "bool" (.int i) = .ok (.bool false) := by
  have : kitB "int" "bool" = some false := by decide +kernel
  show (match kitB "int" "bool" with | some b => Rv.ok (PyData.bool b) | none => .un) = _
  rw [this]
theorem moved_at {s s' : Sg} {w : Nat} (P : Pl deeds tries) (G : Good deeds tries s) (hw : w ≤ tries.length) (e : step ru deeds tries s w = some s') : f_moved [plD deeds tries, ru.d, s.d deeds.length, .int w] = .ok (s'.d deeds.length) := by
  obtain ⟨m0, rest, I⟩ := G
  have := both (ru := ru) P I w hw (Nat.le_refl _) (show deeds.length ≤ 8 by have := P.dl; omega)
  rw [e] at this
  exact this.1
theorem law_step_at {s : Sg} {w : Nat} (P : Pl deeds tries) (G : Good deeds tries s) (hw : w ≤ tries.length) : f_law_small_step [plD deeds tries, ru.d, s.d 8, .int w] = .ok (match step ru deeds tries s w with | none => .none | some s' => s'.d 8) := by
  obtain ⟨m0, rest, I⟩ := G
  have := both (ru := ru) P I w hw (show deeds.length ≤ 8 by have := P.dl; omega) (Nat.le_refl 8)
  cases e : step ru deeds tries s w with
  | none => rw [e] at this; exact this.2
  | some s' => rw [e] at this; exact this.2.1 rfl
theorem isN_d (s : Sg) (N : Nat) : isN (s.d N) = false := rfl
/-! ### the script's numbers -/
theorem int_of {xs : List D} {i : Int} (Q : Int → Prop) (h0 : 0 ≤ i) (h1 : i < xs.length) (h : ∀ d ∈ xs, ∃ v, d = .int v ∧ Q v) : ∃ v, ixD xs i = .ok (.int v) ∧ Q v := by
  obtain ⟨d, e, v, rfl, q⟩ := pick (fun d => ∃ v, d = .int v ∧ Q v) h0 h1 h
  exact ⟨v, e, q⟩
theorem mix_at {c k : Int} (h0 : 0 ≤ k) (h1 : k ≤ 1000) : ∃ v, f_law_mix [.int c, .int k] = .ok (.int v) ∧ 0 ≤ v ∧ v < 2 ^ 30 := by
  have a0 := Int.emod_nonneg k (show (7 : Int) ≠ 0 by decide)
  have a1 := Int.emod_lt_of_pos k (show (0 : Int) < 7 by decide)
  have m1 : dMod (.int k) (.int 7) = .ok (.int (k % 7)) := dMod_ok (by decide)
  generalize k % 7 = k7 at a0 a1 m1
  obtain ⟨p, e1, p0, p1⟩ := int_of (xs := [.int 2147483647, .int 2147483629, .int 2147483587, .int 2147483579, .int 2147483563, .int 2147483549, .int 2147483543]) (i := k7) (fun v => 0 < v ∧ v < 2 ^ 31) a0 (by simpa using a1) (by
    intro d hd
    simp only [List.mem_cons, List.not_mem_nil, or_false] at hd
    rcases hd with rfl | rfl | rfl | rfl | rfl | rfl | rfl <;> exact ⟨_, rfl, by decide, by decide⟩)
  have b0 := Int.emod_nonneg c (show (998244353 : Int) ≠ 0 by decide)
  have b1 := Int.emod_lt_of_pos c (show (0 : Int) < 998244353 by decide)
  have m2 : dMod (.int c) (.int 998244353) = .ok (.int (c % 998244353)) := dMod_ok (by decide)
  generalize c % 998244353 = c1 at b0 b1 m2
  have m3 : dMul (.int 104729) (.int (k + 1)) = .ok (.int (104729 * (k + 1))) := dMul_ok (by decide) (by decide)
  have m4 : dMul (.int k) (.int k) = .ok (.int (k * k)) := dMul_ok (by omega) (by omega)
  have m5 : dMul (.int 7) (.int k) = .ok (.int (7 * k)) := dMul_ok (by decide) (by decide)
  have m6 : dMul (.int (c1 + 104729 * (k + 1))) (.int (k * k + 7 * k + 13)) = .ok (.int ((c1 + 104729 * (k + 1)) * (k * k + 7 * k + 13))) := dMul_ok (by omega) (by omega)
  have m7 : dMod (.int ((c1 + 104729 * (k + 1)) * (k * k + 7 * k + 13))) (.int p) = .ok (.int ((c1 + 104729 * (k + 1)) * (k * k + 7 * k + 13) % p)) := dMod_ok p0
  have d0 := Int.emod_nonneg ((c1 + 104729 * (k + 1)) * (k * k + 7 * k + 13)) (show p ≠ 0 by omega)
  have d1 := Int.emod_lt_of_pos ((c1 + 104729 * (k + 1)) * (k * k + 7 * k + 13)) p0
  generalize (c1 + 104729 * (k + 1)) * (k * k + 7 * k + 13) % p = o1 at m7 d0 d1
  have m8 : dPow (.int o1) (.int 5) = .ok (.int (o1 ^ (5 : Int).toNat)) := dPow_ok (by omega) (by decide) (by decide)
  generalize o1 ^ (5 : Int).toNat = o2 at m8
  have m9 : dMod (.int o2) (.int 1000000007) = .ok (.int (o2 % 1000000007)) := dMod_ok (by decide)
  have f0 := Int.emod_nonneg o2 (show (1000000007 : Int) ≠ 0 by decide)
  have f1 := Int.emod_lt_of_pos o2 (show (0 : Int) < 1000000007 by decide)
  generalize o2 % 1000000007 = o3 at m9 f0 f1
  have m10 : dMul (.int o3) (.int 48271) = .ok (.int (o3 * 48271)) := dMul_ok (by omega) (by omega)
  have m11 : dMul (.int 31) (.int k) = .ok (.int (31 * k)) := dMul_ok (by decide) (by decide)
  have m12 : dMod (.int (o3 * 48271 + 31 * k + 5)) (.int p) = .ok (.int ((o3 * 48271 + 31 * k + 5) % p)) := dMod_ok p0
  have g0 := Int.emod_nonneg (o3 * 48271 + 31 * k + 5) (show p ≠ 0 by omega)
  have g1 := Int.emod_lt_of_pos (o3 * 48271 + 31 * k + 5) p0
  generalize (o3 * 48271 + 31 * k + 5) % p = o4 at m12 g0 g1
  have m13 : dPow (.int o4) (.int 3) = .ok (.int (o4 ^ (3 : Int).toNat)) := dPow_ok (by omega) (by decide) (by decide)
  generalize o4 ^ (3 : Int).toNat = o5 at m13
  have m14 : dMod (.int o5) (.int 998244353) = .ok (.int (o5 % 998244353)) := dMod_ok (by decide)
  have h0' := Int.emod_nonneg o5 (show (998244353 : Int) ≠ 0 by decide)
  have h1' := Int.emod_lt_of_pos o5 (show (0 : Int) < 998244353 by decide)
  generalize o5 % 998244353 = o6 at m14 h0' h1'
  have m15 : dDiv (.int o6) (.int 8) = .ok (.int (o6 / 8)) := dDiv_ok (by decide) (by decide)
  refine ⟨o6 / 8, ?_, by omega, by omega⟩
  simp -implicitDefEqProofs [f_law_mix, m_law_mix, m1, m2, m3, m4, m5, m6, m7, m8, m9, m10, m11, m12, m13, m14, m15, e1]
/-- a row of numbers, none below nought, none great -/
def Ns (ns : List Int) : Prop := ∀ n ∈ ns, 0 ≤ n ∧ n < 2 ^ 30
def dbody : Env' → Res := (sif [] (tand (asB (var 4)) (asB (bi2 dGt (var 3) (cst (.int 0)))))
        (sseq (app 2 [] (bi2 dMod (var 3) (cst (.int 10007))))
        (asg 3 [] (bi2 dDiv (var 3) (cst (.int 10007)))))
        (app 2 [] (cal f_law_mix (acons (var 0) (acons (var 5) anil)))))
theorem digits_def : m_law_digits = sseq (asgF 2 [] (lstF anil)) (sseq (asg 3 [] (cal dAbs (acons (var 0) anil))) (sseq (asg 4 [] (bi2 dGe (var 3) (bi2 dPow (cst (.int 10)) (cst (.int 18))))) (sseq (sforR rng1 [] (bName 5) (acons (var 1) anil) dbody) (Bv.ret [2] (var 2))))) := rfl
theorem app1 {j : Nat} {M : List Nat} {f : Vw → Rv D} {ρ : Env'} {xs : List D} {d : D} (h : ρ[j]? = some (.ow 1 (.list xs))) (hf : f (vw M ρ) = .ok d) (hi : imm d = true) (hl : xs.length < 16000000) : app j M f ρ = .nx (ρ.set j (.ow 1 (.list (xs ++ [d])))) := by
  rw [app_at (n := 0) h, hf]
  simp only [Rv.st_ok]
  rw [if_pos ⟨hl, .inl hi⟩, if_pos hi]
theorem digits_at (c : Int) {many : Int} (hm0 : 0 ≤ many) (hm : many ≤ 1000) : ∃ ns : List Int, f_law_digits [.int c, .int many] = .ok (.list (ns.map .int)) ∧ (ns.length : Int) = many ∧ Ns ns := by
  obtain ⟨wide, hw⟩ : ∃ wide, wide = decide ((10 : Int) ^ (18 : Int).toNat ≤ if c < 0 then -c else c) := ⟨_, rfl⟩
  obtain ⟨lf, hl0, hl⟩ : ∃ lf : Int, (if c < 0 then -c else c) = lf ∧ 0 ≤ lf := ⟨_, rfl, by split <;> omega⟩
  have ha : dAbs [.int c] = .ok (.int lf) := by rw [dAbs_i, hl0]
  have hp : dPow (.int 10) (.int 18) = .ok (.int ((10 : Int) ^ (18 : Int).toNat)) := dPow_ok (by decide) (by decide) (by decide)
  rw [hl0] at hw
  generalize (10 : Int) ^ (18 : Int).toNat = T at hw hp
  have er : rng1 [.int many] = .ok (rangeD 0 many) := by rw [rng1_i, if_pos (rngOk_of (by omega) (by omega))]
  obtain ⟨ρ', hf, ns, l2, b5, rfl, h1, h2, h3⟩ := forL_ix (b := bName 5) (g := dbody) (xs := rangeD 0 many) (k := 0) (ρ := [.fz (.int c), .fz (.int many), .ow 1 (.list []), .fz (.int lf), .fz (.bool wide), .un])
    (fun k ρ => ∃ (ns : List Int) (l : Int) (b5 : Sl), ρ = [.fz (.int c), .fz (.int many), .ow 1 (.list (ns.map .int)), .fz (.int l), .fz (.bool wide), b5] ∧ ns.length = k ∧ Ns ns ∧ 0 ≤ l)
    ⟨[], lf, .un, rfl, rfl, (fun _ h => by cases h), hl⟩ (by
      rintro i d hi ρ ⟨ns, l, b5, rfl, h1, h2, h3⟩
      rw [Nat.zero_add] at h1 ⊢
      have hi2 := (List.getElem?_eq_some_iff.mp hi).1
      rw [rangeD_len] at hi2
      have ed : d = .int (i : Nat) := by
        rw [rangeD_get hi2, Int.zero_add] at hi
        exact (Option.some.inj hi).symm
      subst ed
      have nl : (ns.map PyData.int).length < 16000000 := by rw [List.length_map]; omega
      obtain ⟨v, hv, v0, v1⟩ := mix_at (c := c) (k := (i : Nat)) (by omega) (by omega)
      by_cases hb : (wide = true ∧ 0 < l)
      · have q0 := Int.emod_nonneg l (show (10007 : Int) ≠ 0 by decide)
        have q1 := Int.emod_lt_of_pos l (show (0 : Int) < 10007 by decide)
        refine ⟨_, [.fz (.int c), .fz (.int many), .ow 1 (.list ((ns ++ [l % 10007]).map .int)), .fz (.int (l / 10007)), .fz (.bool wide), .fz (.int (i : Nat))], rfl, ?_, ns ++ [l % 10007], l / 10007, _, rfl, by simp [h1], ?_, Int.ediv_nonneg h3 (by decide)⟩
        · have m1 : dMod (.int l) (.int 10007) = .ok (.int (l % 10007)) := dMod_ok (by decide)
          have m2 : dDiv (.int l) (.int 10007) = .ok (.int (l / 10007)) := dDiv_ok (by decide) (by decide)
          have := app1 (j := 2) (d := .int (l % 10007)) (M := []) (f := bi2 dMod (var 3) (cst (.int 10007))) (ρ := [.fz (.int c), .fz (.int many), .ow 1 (.list (ns.map .int)), .fz (.int l), .fz (.bool wide), .fz (.int (i : Nat))]) rfl (by simp [m1]) rfl nl
          simp -implicitDefEqProofs [dbody, hb.1, hb.2]
          rw [hb.1] at this
          simp -implicitDefEqProofs [this, m2]
        · intro n hn
          rcases List.mem_append.mp hn with hn | hn
          · exact h2 n hn
          · rw [List.mem_singleton.mp hn]; omega
      · refine ⟨_, [.fz (.int c), .fz (.int many), .ow 1 (.list ((ns ++ [v]).map .int)), .fz (.int l), .fz (.bool wide), .fz (.int (i : Nat))], rfl, ?_, ns ++ [v], l, _, rfl, by simp [h1], ?_, h3⟩
        · have := app1 (j := 2) (d := .int v) (M := []) (f := cal f_law_mix (acons (var 0) (acons (var 5) anil))) (ρ := [.fz (.int c), .fz (.int many), .ow 1 (.list (ns.map .int)), .fz (.int l), .fz (.bool wide), .fz (.int (i : Nat))]) rfl (by simp [hv]) rfl nl
          cases wide with
          | false => simp -implicitDefEqProofs [dbody, this]
          | true =>
            have hb2 : ¬ 0 < l := fun h => hb ⟨rfl, h⟩
            simp -implicitDefEqProofs [dbody, this, hb2]
        · intro n hn
          rcases List.mem_append.mp hn with hn | hn
          · exact h2 n hn
          · rw [List.mem_singleton.mp hn]; exact ⟨v0, v1⟩)
  rw [rangeD_len, Nat.zero_add, Int.sub_zero] at h1
  refine ⟨ns, ?_, by omega, h2⟩
  unfold f_law_digits
  rw [digits_def]
  generalize rangeD 0 many = rg at hf er
  simp -implicitDefEqProofs [ha, hp, ← hw, er, hf]
theorem at_at (ns : List Int) {k : Int} (h0 : 0 ≤ k) (h1 : k ≤ 1000) : ∃ c, f_law_at [.list (ns.map .int), .int k] = .ok (.int c) := by
  have hl : dLen [.list (ns.map .int)] = .ok (.int (ns.length : Int)) := by rw [dLen_l, List.length_map]
  by_cases h : k < (ns.length : Int)
  · obtain ⟨c, e, _⟩ := int_of (xs := ns.map .int) (i := k) (fun _ => True) h0 (by rw [List.length_map]; exact h) (fun d hd => by
      obtain ⟨v, _, rfl⟩ := List.mem_map.mp hd
      exact ⟨v, rfl, trivial⟩)
    exact ⟨c, by simp -implicitDefEqProofs [f_law_at, m_law_at, hl, h, e]⟩
  · have m1 : dMul (.int 67) (.int k) = .ok (.int (67 * k)) := dMul_ok (by decide) (by decide)
    exact ⟨67 * k + 19 + (ns.length : Int), by simp -implicitDefEqProofs [f_law_at, m_law_at, hl, h, m1]⟩
/-! ### the play -/
def pbody : Env' → Res := (sseq (asg 5 [] (bi2 dIx (var 0) (bi2 dAdd (cst (.int 2)) (var 4))))
      (sseq (asg 6 [] (bi2 dIx (lstD (lstF (acons (cst (.int 7)) (acons (cst (.int 10)) (acons (cst (.int 42)) (acons (cst (.int 99)) (acons (una dNeg (cst (.int 6))) (acons (una dNeg (cst (.int 99))) (acons (bi2 dPow (cst (.int 10)) (cst (.int 9))) (acons (bi2 dSub (bi2 dPow (cst (.int 10)) (cst (.int 30))) (cst (.int 1))) (acons (cst (.int 1)) (acons (cst (.int 100)) (acons (cst (.int 12)) (acons (una dNeg (cst (.int 12))) anil)))))))))))))) (bi2 dMod (bi2 dDiv (var 5) (cst (.int 6))) (cst (.int 12)))))
      (sseq (asg 7 [] (bi2 dIx (lstD (lstF (acons (bi2 dMod (bi2 dIx (var 0) (cst (.int 1))) (cst (.int 7))) (acons (bi2 dMod (bi2 dDiv (var 5) (cst (.int 72))) (cst (.int 5))) anil)))) (cal dInt (acons (bi2 dGt (bi2 dMod (bi2 dIx (var 0) (cst (.int 1))) (cst (.int 7))) (cst (.int 4))) anil))))
      (sseq (asg 8 [] (bi2 dIx (lstD (lstF (acons (var 4) (acons (bi2 dMod (bi2 dDiv (var 5) (cst (.int 6))) (cst (.int 3))) (acons (bi2 dSub (una dNeg (cst (.int 1))) (bi2 dMod (bi2 dDiv (var 5) (cst (.int 6))) (cst (.int 4)))) (acons (bi2 dSub (bi2 dPow (cst (.int 10)) (cst (.int 29))) (var 5)) (acons (var 6) anil))))))) (var 7)))
      (app 3 [] (bi2 dIx (lstD (lstF (acons (tupD (acons (cst (.str "lay")) (acons (var 8) anil))) (acons (tupD (acons (cst (.str "take")) anil)) (acons (tupD (acons (cst (.str "lay")) (acons (var 8) anil))) anil))))) (bi2 dMod (bi2 dAdd (var 5) (bi2 dDiv (var 4) (cst (.int 3)))) (cst (.int 3)))))))))
theorem play_def : m_law_play = sseq (asgF 3 [] (lstF anil)) (sseq (sforR rng1 [] (bName 4) (acons (bi2 dMod (bi2 dIx (var 0) (cst (.int 0))) (bi2 dAdd (var 1) (cst (.int 1)))) anil) pbody) (Bv.ret [3] (tupD (acons (cal dTuple (acons (var 3) anil)) (acons (var 2) anil))))) := rfl
theorem pbody_at {ns : List Int} {tr : D} {deeds : List (Option D)} {i : Nat} {b5 b6 b7 b8 : Sl} (hN : Ns ns) (hl : 9 ≤ ns.length) (hi : i < 6) (hd : deeds.length = i) :
    ∃ (x : Option D) (c5 c6 c7 c8 : Sl), pbody [.fz (.list (ns.map .int)), .fz (.int 6), .fz tr, .ow 1 (.list (deeds.map dd)), .fz (.int (i : Nat)), b5, b6, b7, b8] =
      .nx [.fz (.list (ns.map .int)), .fz (.int 6), .fz tr, .ow 1 (.list ((deeds ++ [x]).map dd)), .fz (.int (i : Nat)), c5, c6, c7, c8] ∧ ∀ t, x = some t → Sm t := by
  have get : ∀ j : Int, 0 ≤ j → j < 9 → ∃ v, ixD (ns.map .int) j = .ok (.int v) ∧ 0 ≤ v ∧ v < 2 ^ 30 := fun j h0 h1 =>
    int_of (fun v => 0 ≤ v ∧ v < 2 ^ 30) h0 (by rw [List.length_map]; omega) fun d hd => by
      obtain ⟨v, hv, rfl⟩ := List.mem_map.mp hd
      exact ⟨v, rfl, hN v hv⟩
  obtain ⟨one, g1, o0, o1⟩ := get (2 + (i : Nat)) (by omega) (by omega)
  obtain ⟨s1, g2, s0, s1'⟩ := get 1 (by decide) (by decide)
  have m1 : dDiv (.int one) (.int 6) = .ok (.int (one / 6)) := dDiv_ok (by decide) (by decide)
  have m2 : dMod (.int (one / 6)) (.int 12) = .ok (.int (one / 6 % 12)) := dMod_ok (by decide)
  have m3 : dMod (.int s1) (.int 7) = .ok (.int (s1 % 7)) := dMod_ok (by decide)
  have m4 : dDiv (.int one) (.int 72) = .ok (.int (one / 72)) := dDiv_ok (by decide) (by decide)
  have m5 : dMod (.int (one / 72)) (.int 5) = .ok (.int (one / 72 % 5)) := dMod_ok (by decide)
  have m6 : dMod (.int (one / 6)) (.int 3) = .ok (.int (one / 6 % 3)) := dMod_ok (by decide)
  have m7 : dMod (.int (one / 6)) (.int 4) = .ok (.int (one / 6 % 4)) := dMod_ok (by decide)
  have m8 : dDiv (.int (i : Nat)) (.int 3) = .ok (.int ((i : Int) / 3)) := dDiv_ok (by decide) (by decide)
  have m9 : dMod (.int (one + (i : Int) / 3)) (.int 3) = .ok (.int ((one + (i : Int) / 3) % 3)) := dMod_ok (by decide)
  have p1 : dPow (.int 10) (.int 9) = .ok (.int ((10 : Int) ^ (9 : Int).toNat)) := dPow_ok (by decide) (by decide) (by decide)
  have p2 : dPow (.int 10) (.int 30) = .ok (.int ((10 : Int) ^ (30 : Int).toNat)) := dPow_ok (by decide) (by decide) (by decide)
  have p3 : dPow (.int 10) (.int 29) = .ok (.int ((10 : Int) ^ (29 : Int).toNat)) := dPow_ok (by decide) (by decide) (by decide)
  have b9 : (10 : Int) ^ (9 : Int).toNat = 1000000000 := by decide
  have b30 : (10 : Int) ^ (30 : Int).toNat = 1000000000000000000000000000000 := by decide
  have b29 : (10 : Int) ^ (29 : Int).toNat = 100000000000000000000000000000 := by decide
  rw [b9] at p1
  rw [b30] at p2
  rw [b29] at p3
  have c0 := Int.emod_nonneg (one / 6) (show (12 : Int) ≠ 0 by decide)
  have c1 := Int.emod_lt_of_pos (one / 6) (show (0 : Int) < 12 by decide)
  generalize one / 6 % 12 = i12 at m2 c0 c1
  obtain ⟨far, g3, f1⟩ := int_of (xs := [.int 7, .int 10, .int 42, .int 99, .int (-6), .int (-99), .int 1000000000, .int 999999999999999999999999999999, .int 1, .int 100, .int 12, .int (-12)]) (i := i12) (fun v => v.natAbs < 2 ^ 101) c0 (by simpa using c1) (by
    intro d hd
    simp only [List.mem_cons, List.not_mem_nil, or_false] at hd
    rcases hd with rfl | rfl | rfl | rfl | rfl | rfl | rfl | rfl | rfl | rfl | rfl | rfl <;> exact ⟨_, rfl, by decide⟩)
  have d0 := Int.emod_nonneg s1 (show (7 : Int) ≠ 0 by decide)
  have d1 := Int.emod_nonneg (one / 72) (show (5 : Int) ≠ 0 by decide)
  have d2 := Int.emod_lt_of_pos (one / 72) (show (0 : Int) < 5 by decide)
  generalize s1 % 7 = s7 at m3 d0
  generalize one / 72 % 5 = w5 at m5 d1 d2
  obtain ⟨way, g4, w0, w1⟩ : ∃ way, ixD [.int s7, .int w5] (if decide (4 < s7) = true then 1 else 0) = .ok (.int way) ∧ 0 ≤ way ∧ way < 5 := by
    by_cases h : 4 < s7
    · rw [if_pos (decide_eq_true h)]
      exact ⟨w5, by simp, d1, d2⟩
    · rw [if_neg (by simpa using h)]
      exact ⟨s7, by simp, d0, by omega⟩
  have e0 := Int.emod_nonneg (one / 6) (show (3 : Int) ≠ 0 by decide)
  have e1 := Int.emod_lt_of_pos (one / 6) (show (0 : Int) < 3 by decide)
  have e2 := Int.emod_nonneg (one / 6) (show (4 : Int) ≠ 0 by decide)
  have e3 := Int.emod_lt_of_pos (one / 6) (show (0 : Int) < 4 by decide)
  generalize one / 6 % 3 = q3 at m6 e0 e1
  generalize one / 6 % 4 = q4 at m7 e2 e3
  obtain ⟨th, g5, t1⟩ := int_of (xs := [.int (i : Nat), .int q3, .int (-1 - q4), .int (100000000000000000000000000000 - one), .int far]) (i := way) (fun v => v.natAbs < 2 ^ 101) w0 (by simpa using w1) (by
    intro d hd
    simp only [List.mem_cons, List.not_mem_nil, or_false] at hd
    rcases hd with rfl | rfl | rfl | rfl | rfl
    · exact ⟨_, rfl, by omega⟩
    · exact ⟨_, rfl, by omega⟩
    · exact ⟨_, rfl, by omega⟩
    · exact ⟨_, rfl, by omega⟩
    · exact ⟨_, rfl, f1⟩)
  have n0 := Int.emod_nonneg (one + (i : Int) / 3) (show (3 : Int) ≠ 0 by decide)
  have n1 := Int.emod_lt_of_pos (one + (i : Int) / 3) (show (0 : Int) < 3 by decide)
  generalize (one + (i : Int) / 3) % 3 = j at m9 n0 n1
  obtain ⟨dx, g6, x, rfl, hx⟩ := pick (xs := [.tuple [.str "lay", .int th], .tuple [.str "take"], .tuple [.str "lay", .int th]]) (i := j) (fun d => ∃ x : Option D, d = dd x ∧ ∀ t, x = some t → Sm t) n0 (by simpa using n1) (by
    intro d hd
    simp only [List.mem_cons, List.not_mem_nil, or_false] at hd
    rcases hd with rfl | rfl | rfl
    · exact ⟨some (.int th), rfl, fun t e => by cases e; exact .inr (.inr ⟨th, rfl, t1⟩)⟩
    · exact ⟨none, rfl, fun t e => by cases e⟩
    · exact ⟨some (.int th), rfl, fun t e => by cases e; exact .inr (.inr ⟨th, rfl, t1⟩)⟩)
  refine ⟨x, .fz (.int one), .fz (.int far), .fz (.int way), .fz (.int th), ?_, hx⟩
  have hin : dInt [.bool (decide (4 < s7))] = .ok (.int (if decide (4 < s7) = true then 1 else 0)) := rfl
  have im : imm (dd x) = true := by
    cases x with
    | none => rfl
    | some t => simp [dd, (hx t rfl).imm]
  have ap := app1 (j := 3) (M := []) (d := dd x) (f := (bi2 dIx (lstD (lstF (acons (tupD (acons (cst (.str "lay")) (acons (var 8) anil))) (acons (tupD (acons (cst (.str "take")) anil)) (acons (tupD (acons (cst (.str "lay")) (acons (var 8) anil))) anil))))) (bi2 dMod (bi2 dAdd (var 5) (bi2 dDiv (var 4) (cst (.int 3)))) (cst (.int 3)))))
    (ρ := [.fz (.list (ns.map .int)), .fz (.int 6), .fz tr, .ow 1 (.list (deeds.map dd)), .fz (.int (i : Nat)), .fz (.int one), .fz (.int far), .fz (.int way), .fz (.int th)]) rfl (by simp -implicitDefEqProofs [m8, m9, g6]) im (by rw [List.length_map]; omega)
  generalize hin2 : (if decide (4 < s7) = true then (1 : Int) else 0) = jj at hin g4
  simp -implicitDefEqProofs [pbody, g1, g2, g3, g4, g5, m1, m2, m3, m4, m5, m6, m7, p1, p2, p3, hin, ap]
theorem play_at {ns tries : List Int} (hN : Ns ns) (hl : 9 ≤ ns.length) : ∃ deeds : List (Option D), f_law_play [.list (ns.map .int), .int 6, .tuple (tries.map .int)] = .ok (plD deeds tries) ∧ deeds.length ≤ 6 ∧ ∀ t, some t ∈ deeds → Sm t := by
  obtain ⟨s0, g0, h0, h0'⟩ := int_of (xs := ns.map .int) (i := 0) (fun v => 0 ≤ v ∧ v < 2 ^ 30) (by decide) (by rw [List.length_map]; omega) fun d hd => by
    obtain ⟨v, hv, rfl⟩ := List.mem_map.mp hd
    exact ⟨v, rfl, hN v hv⟩
  have m1 : dMod (.int s0) (.int 7) = .ok (.int (s0 % 7)) := dMod_ok (by decide)
  have a0 := Int.emod_nonneg s0 (show (7 : Int) ≠ 0 by decide)
  have a1 := Int.emod_lt_of_pos s0 (show (0 : Int) < 7 by decide)
  generalize s0 % 7 = n at m1 a0 a1
  have er : rng1 [.int n] = .ok (rangeD 0 n) := by rw [rng1_i, if_pos (rngOk_of (by omega) (by omega))]
  obtain ⟨ρ', hf, deeds, b4, b5, b6, b7, b8, rfl, h1, h2⟩ := forL_ix (b := bName 4) (g := pbody) (xs := rangeD 0 n) (k := 0) (ρ := [.fz (.list (ns.map .int)), .fz (.int 6), .fz (.tuple (tries.map .int)), .ow 1 (.list []), .un, .un, .un, .un, .un])
    (fun k ρ => ∃ (deeds : List (Option D)) (b4 b5 b6 b7 b8 : Sl), ρ = [.fz (.list (ns.map .int)), .fz (.int 6), .fz (.tuple (tries.map .int)), .ow 1 (.list (deeds.map dd)), b4, b5, b6, b7, b8] ∧ deeds.length = k ∧ ∀ t, some t ∈ deeds → Sm t)
    ⟨[], _, _, _, _, _, rfl, rfl, (fun _ h => by cases h)⟩ (by
      rintro i d hi ρ ⟨deeds, b4, b5, b6, b7, b8, rfl, h1, h2⟩
      rw [Nat.zero_add] at h1 ⊢
      have hi2 := (List.getElem?_eq_some_iff.mp hi).1
      rw [rangeD_len] at hi2
      have ed : d = .int (i : Nat) := by
        rw [rangeD_get hi2, Int.zero_add] at hi
        exact (Option.some.inj hi).symm
      subst ed
      obtain ⟨x, c5, c6, c7, c8, e, hx⟩ := pbody_at (tr := .tuple (tries.map .int)) (b5 := b5) (b6 := b6) (b7 := b7) (b8 := b8) hN hl (by omega) h1
      refine ⟨_, _, rfl, e, deeds ++ [x], _, _, _, _, _, rfl, by simp [h1], fun t ht => ?_⟩
      rcases List.mem_append.mp ht with ht | ht
      · exact h2 t ht
      · exact hx t (List.mem_singleton.mp ht).symm)
  rw [rangeD_len, Nat.zero_add, Int.sub_zero] at h1
  refine ⟨deeds, ?_, by omega, h2⟩
  unfold f_law_play
  rw [play_def]
  generalize rangeD 0 n = rg at hf er
  have hl2 : dTuple [.list (deeds.map dd)] = .ok (.tuple (deeds.map dd)) := rfl
  simp -implicitDefEqProofs [g0, m1, er, hf, plD]
end K51



namespace K51
open PySem PySem.Spec L2 PyProof.Rows Bv

section
def isI : D → Bool
  | .int _ => true
  | _ => false
theorem stepO2g {near far n f : Int} {bx told : List D} {x : D} : stepO .good near far bx ⟨n, 2, f, x, told⟩ = if near < f then (f, far, ⟨n + 1, 0, 0, .none, told ++ [.none]⟩) else if f < near then (near, far, ⟨n + 1, 0, 0, .none, told ++ [gx bx near]⟩) else (near, far, ⟨n, 3, f, gx bx near, told⟩) := by rw [stepO2]; simp [Ru.ba]
theorem stepT3g {near far n f : Int} {bx told : List D} {x : D} : stepT .good near far bx ⟨n, 3, f, x, told⟩ = if far = f then (f + 1, ⟨n + 1, 0, 0, .none, told ++ [x]⟩) else (far, ⟨n + 1, 0, 0, .none, told ++ [.str "lost"]⟩) := by rw [stepT3]; simp [Ru.bl]
variable {deeds : List (Option D)} {tries : List Int}
/-! ### nothing twice, nothing lost -/
def seg (bx : List D) (a b : Int) : List D := (bx.drop a.toNat).take (b - a).toNat
theorem seg_nil {bx : List D} {a b : Int} (h : b ≤ a) : seg bx a b = [] := by
  unfold seg
  rw [show (b - a).toNat = 0 by omega]
  rfl
theorem seg_cons {bx : List D} {a b : Int} (h0 : 0 ≤ a) (h : a < b) (hl : a < bx.length) : seg bx a b = gx bx a :: seg bx (a + 1) b := by
  unfold seg gx
  have hl2 : a.toNat < bx.length := by omega
  rw [List.drop_eq_getElem_cons hl2, show (b - a).toNat = (b - (a + 1)).toNat + 1 by omega, List.take_succ_cons, show (a + 1).toNat = a.toNat + 1 by omega]
  simp [hl2]
theorem seg_snoc {bx : List D} {a b : Int} (h0 : 0 ≤ a) (h : a ≤ b) (hl : b < bx.length) : seg bx a (b + 1) = seg bx a b ++ [gx bx b] := by
  unfold seg gx
  have hl2 : b.toNat < bx.length := by omega
  rw [show (b + 1 - a).toNat = (b - a).toNat + 1 by omega, List.take_add_one, List.getElem?_drop, show a.toNat + (b - a).toNat = b.toNat by omega]
  simp [hl2]
/-- the owner: where it stands, the bound of the live ones, what is still to be got -/
inductive Ow (deeds : List (Option D)) (near far : Int) (bx : List D) : Mv → Int → List D → Prop
  | idle {n : Int} {l : List D} : far ≤ near → Ow deeds near far bx ⟨n, 0, 0, .none, l⟩ near (seg bx far near)
  | lay1 {n : Int} {l : List D} {t : D} : far ≤ near → deeds[n.toNat]? = some (some t) → gx bx near = t → Ow deeds near far bx ⟨n, 1, 0, .none, l⟩ near (seg bx far near)
  | t1 {n : Int} {l : List D} : deeds[n.toNat]? = some none → far ≤ near + 1 → Ow deeds near far bx ⟨n, 1, 0, .none, l⟩ (near + 1) (seg bx far (near + 1))
  | t2l {n f : Int} {l : List D} : deeds[n.toNat]? = some none → far = f → f = near + 1 → Ow deeds near far bx ⟨n, 2, f, .none, l⟩ (near + 1) []
  | t2e {n f : Int} {l : List D} : deeds[n.toNat]? = some none → f = near → (far = f ∨ far = f + 1) → Ow deeds near far bx ⟨n, 2, f, .none, l⟩ (near + 1) (seg bx far (near + 1))
  | t2g {n f : Int} {l : List D} : deeds[n.toNat]? = some none → f ≤ far → f < near → far ≤ near → Ow deeds near far bx ⟨n, 2, f, .none, l⟩ near (seg bx far (near + 1))
  | t3 {n f : Int} {l : List D} {x : D} : deeds[n.toNat]? = some none → f = near → (far = f ∨ far = f + 1) → x = gx bx f → Ow deeds near far bx ⟨n, 3, f, x, l⟩ (near + 1) (seg bx far (near + 1))
  | t4 {n f : Int} {l : List D} {x : D} : deeds[n.toNat]? = some none → f = near → far = f + 1 → Ow deeds near far bx ⟨n, 4, f, x, l⟩ near (if isI x = true then [x] else [])
/-- a thief -/
structure Tw (bx : List D) (far lim : Int) (m : Mv) : Prop where
  f1 : m.ph ≠ 0 → m.f ≤ far
  lv : (m.ph = 2 ∨ m.ph = 3) → m.f = far → far < lim
  x3 : m.ph = 3 → m.f = far → m.x = gx bx far
theorem Tw.mono {bx : List D} {far lim far' lim' : Int} {m : Mv} (T : Tw bx far lim m) (h : far ≤ far') (hl : far' = far → far < lim → far < lim') : Tw bx far' lim' m := by
  refine ⟨fun a => Int.le_trans (T.f1 a) h, fun a e => ?_, fun a e => ?_⟩
  · have h1 := T.f1 (by rcases a with a | a <;> rw [a] <;> decide)
    have e2 : far' = far := by omega
    subst e2
    exact hl rfl (T.lv a e)
  · have h1 := T.f1 (by rw [a]; decide)
    have e2 : far' = far := by omega
    subst e2
    exact T.x3 a e
theorem ow_take {near far lim : Int} {bx C : List D} {m : Mv} (O : Ow deeds near far bx m lim C) (hd : deeds[m.n.toNat]? = some none) (f0 : 0 ≤ far) (nb : near < 8) (bl : bx.length = 8) (hI : ∀ d ∈ C, isI d = true) :
    ∃ lim' C', Ow deeds (stepO .good near far bx m).1 (stepO .good near far bx m).2.1 bx (stepO .good near far bx m).2.2 lim' C' ∧ ((stepO .good near far bx m).2.2.told.filter isI ++ C').Perm (m.told.filter isI ++ C) ∧
      far ≤ (stepO .good near far bx m).2.1 ∧ ∀ m', Tw bx far lim m' → Tw bx (stepO .good near far bx m).2.1 lim' m' := by
  cases O with
  | @idle n l h =>
    rw [stepO0]
    have h1 := Ow.t1 (bx := bx) (l := l) (near := near - 1) (far := far) hd (by omega)
    rw [show near - 1 + 1 = near by omega] at h1
    exact ⟨_, _, h1, .refl _, Int.le_refl _, fun m' T => T⟩
  | lay1 h1 h2 => rw [hd] at h2; cases h2
  | @t1 n l h1 h2 =>
    rw [stepO1]
    rcases Int.lt_trichotomy near far with h | h | h
    · have e : far = near + 1 := by omega
      refine ⟨near + 1, [], .t2l hd rfl e, ?_, Int.le_refl _, fun m' T => T⟩
      rw [seg_nil (by omega)]
    · exact ⟨near + 1, _, .t2e hd h.symm (.inl rfl), .refl _, Int.le_refl _, fun m' T => T⟩
    · exact ⟨near, _, .t2g hd (Int.le_refl _) h (by dsimp only; omega), .refl _, Int.le_refl _, fun m' T => T.mono (Int.le_refl _) fun _ _ => h⟩
  | @t2l n f l h1 h2 h3 =>
    rw [stepO2g, if_pos (by omega)]
    refine ⟨_, _, .idle (by dsimp only; omega), ?_, Int.le_refl _, fun m' T => T.mono (Int.le_refl _) fun _ q => by omega⟩
    dsimp only
    rw [seg_nil (by omega)]
    simp [isI]
  | @t2e n f l h1 h2 h3 =>
    rw [stepO2g, if_neg (by omega), if_neg (by omega)]
    refine ⟨_, _, .t3 hd h2 h3 (by rw [h2]), .refl _, Int.le_refl _, fun m' T => T⟩
  | @t2g n f l h1 h2 h3 h4 =>
    rw [stepO2g, if_neg (by omega), if_pos h3]
    have es : seg bx far (near + 1) = seg bx far near ++ [gx bx near] := seg_snoc f0 h4 (by omega)
    have hg : isI (gx bx near) = true := hI _ (by rw [es]; simp)
    refine ⟨_, _, .idle h4, ?_, Int.le_refl _, fun m' T => T⟩
    dsimp only
    rw [es, List.filter_append]
    simp [hg]
    exact (List.perm_append_singleton _ _).symm.append_left _
  | @t3 n f l x h1 h2 h3 h4 =>
    rw [stepO3]
    by_cases h : far = f
    · rw [if_pos h]
      have e2 : seg bx far (near + 1) = [gx bx far] := by
        rw [seg_cons f0 (by omega) (by omega), seg_nil (by omega)]
      have hx : isI x = true := hI _ (by rw [e2, h4, h]; simp)
      refine ⟨_, _, .t4 hd h2 (by dsimp only; omega), ?_, by dsimp only; omega, fun m' T => T.mono (by dsimp only; omega) fun q => by dsimp only at q; omega⟩
      rw [if_pos hx, e2, h4, h]
    · rw [if_neg h]
      refine ⟨_, _, .t4 hd h2 (by dsimp only; omega), ?_, Int.le_refl _, fun m' T => T.mono (Int.le_refl _) fun _ q => by omega⟩
      rw [seg_nil (by omega)]
      simp [isI]
  | @t4 n f l x h1 h2 h3 =>
    rw [stepO4]
    refine ⟨_, _, .idle (by dsimp only; omega), ?_, Int.le_refl _, fun m' T => T.mono (Int.le_refl _) fun _ q => by omega⟩
    dsimp only
    rw [seg_nil (by omega), List.filter_append]
    by_cases hx : isI x = true <;> simp [hx]
theorem gx_set_ne {bx : List D} {i j : Int} {t : D} (hi : 0 ≤ i) (hj : 0 ≤ j) (h : i ≠ j) : gx (bx.set i.toNat t) j = gx bx j := by
  unfold gx
  rw [List.getElem?_set_ne (by omega)]
theorem gx_set_self {bx : List D} {i : Int} {t : D} (h : i.toNat < bx.length) : gx (bx.set i.toNat t) i = t := by
  unfold gx
  rw [List.getElem?_set_self h]
  rfl
theorem seg_set {bx : List D} {a b : Int} {t : D} (h : 0 ≤ a) : seg (bx.set b.toNat t) a b = seg bx a b := by
  unfold seg
  apply List.ext_getElem?
  intro j
  rw [List.getElem?_take, List.getElem?_take, List.getElem?_drop, List.getElem?_drop]
  by_cases hj : j < (b - a).toNat
  · rw [if_pos hj, if_pos hj, List.getElem?_set_ne (by omega)]
  · rw [if_neg hj, if_neg hj]
theorem ow_lay {near far lim : Int} {bx C : List D} {m : Mv} {t : D} (O : Ow deeds near far bx m lim C) (hd : deeds[m.n.toNat]? = some (some t)) (f0 : 0 ≤ far) (nb : near < 8) (bl : bx.length = 8) :
    ∃ lim' C', Ow deeds (stepL near bx m t).1 far (stepL near bx m t).2.1 (stepL near bx m t).2.2 lim' C' ∧ (stepL near bx m t).2.2.told = m.told ∧
      C' = C ++ (if (stepL near bx m t).2.2.n = m.n then [] else [t]) ∧ ∀ m', Tw bx far lim m' → Tw (stepL near bx m t).2.1 far lim' m' := by
  cases O with
  | @idle n l h =>
    rw [stepL0]
    refine ⟨_, _, .lay1 h hd (gx_set_self (by omega)), rfl, by dsimp only; rw [if_pos rfl, List.append_nil, seg_set f0], fun m' T => ⟨T.f1, T.lv, fun a e => ?_⟩⟩
    dsimp only
    rw [gx_set_ne (by omega) f0 (by have := T.lv (.inr a) e; omega)]
    exact T.x3 a e
  | @lay1 n l t' h h2 h3 =>
    rw [stepL1]
    have e : t' = t := by
      have := h2.symm.trans hd
      cases this
      rfl
    subst e
    refine ⟨_, _, .idle (by dsimp only; omega), rfl, ?_, fun m' T => T.mono (Int.le_refl _) fun _ q => by dsimp only; omega⟩
    dsimp only
    rw [if_neg (by omega), seg_snoc f0 h (by omega), h3]
  | t1 h => rw [hd] at h; cases h
  | t2l h => rw [hd] at h; cases h
  | t2e h => rw [hd] at h; cases h
  | t2g h => rw [hd] at h; cases h
  | t3 h => rw [hd] at h; cases h
  | t4 h => rw [hd] at h; cases h
/-- a thief's small deed -/
theorem tw_step {near far lim : Int} {bx C : List D} {m0 m : Mv} (O : Ow deeds near far bx m0 lim C) (T : Tw bx far lim m) (hp : m.ph = 0 ∨ m.ph = 1 ∨ m.ph = 2 ∨ m.ph = 3) (hx : m.ph ≠ 3 → m.x = .none) (f0 : 0 ≤ far) (nb : near < 8) (bl : bx.length = 8) (hI : ∀ d ∈ C, isI d = true) :
    ∃ lim' C', Ow deeds near (stepT .good near far bx m).1 bx m0 lim' C' ∧ ((stepT .good near far bx m).2.told.filter isI ++ C').Perm (m.told.filter isI ++ C) ∧ Tw bx (stepT .good near far bx m).1 lim' (stepT .good near far bx m).2 ∧ ∀ m', Tw bx far lim m' → Tw bx (stepT .good near far bx m).1 lim' m' := by
  have chk : far < near → far < lim := fun h => by cases O <;> omega
  obtain ⟨n, p, f, x, l⟩ := m
  have idleT : ∀ {a b : Int} {l : List D}, Tw bx a b ⟨n + 1, 0, 0, .none, l⟩ := fun {a b l} => ⟨fun h => absurd rfl h, fun h => (by rcases h with h | h <;> cases h), fun h => (by cases h)⟩
  simp only at hp hx
  rcases hp with rfl | rfl | rfl | rfl
  · rw [stepT0]
    exact ⟨lim, C, O, .refl _, ⟨fun _ => Int.le_refl _, fun h => (by rcases h with h | h <;> cases h), fun h => (by cases h)⟩, fun m' T => T⟩
  · rw [stepT1]
    have hf := T.f1 (show (1 : Int) ≠ 0 by decide)
    simp only at hf
    by_cases c : near ≤ f
    · rw [if_pos c]
      exact ⟨lim, C, O, by simp [isI], idleT, fun m' T => T⟩
    · rw [if_neg c]
      refine ⟨lim, C, O, .refl _, ⟨fun _ => hf, fun _ e => ?_, fun h => (by cases h)⟩, fun m' T => T⟩
      simp only at e
      exact chk (by omega)
  · rw [stepT2]
    have hf := T.f1 (show (2 : Int) ≠ 0 by decide)
    exact ⟨lim, C, O, .refl _, ⟨fun _ => hf, fun _ e => T.lv (.inl rfl) e, fun _ e => by simp only at e ⊢; rw [e]⟩, fun m' T => T⟩
  · rw [stepT3g]
    by_cases c : far = f
    · rw [if_pos c]
      have hlv := T.lv (.inr rfl) c.symm
      have hxx := T.x3 rfl c.symm
      simp only at hxx
      have key : ∃ lim' C', Ow deeds near (far + 1) bx m0 lim' C' ∧ C = gx bx far :: C' := by
        cases O with
        | idle h => exact ⟨_, _, .idle (by omega), seg_cons f0 hlv (by omega)⟩
        | lay1 h h2 h3 => exact ⟨_, _, .lay1 (by omega) h2 h3, seg_cons f0 hlv (by omega)⟩
        | t1 h h2 => exact ⟨_, _, .t1 h (by omega), seg_cons f0 hlv (by omega)⟩
        | t2l h h2 h3 => omega
        | t2e h h2 h3 => exact ⟨_, _, .t2e h h2 (by omega), seg_cons f0 hlv (by omega)⟩
        | t2g h h2 h3 h4 => exact ⟨_, _, .t2g h (by omega) h3 (by omega), seg_cons f0 (by omega) (by omega)⟩
        | t3 h h2 h3 h4 => exact ⟨_, _, .t3 h h2 (by omega) h4, seg_cons f0 hlv (by omega)⟩
        | t4 h h2 h3 => omega
      obtain ⟨lim', C', O', eC⟩ := key
      have hg : isI (gx bx far) = true := hI _ (by rw [eC]; exact List.mem_cons_self)
      refine ⟨lim', C', by dsimp only; rw [← c]; exact O', ?_, idleT, fun m' T => T.mono (by dsimp only; omega) fun q => by dsimp only at q; omega⟩
      dsimp only
      rw [hxx, eC, List.filter_append]
      simp [hg]
    · rw [if_neg c]
      exact ⟨lim, C, O, by simp [isI], idleT, fun m' T => T⟩
end
section
variable {deeds : List (Option D)} {tries : List Int}
def laid (ds : List (Option D)) : List D := ds.filterMap id
def gotO (m : Mv) : List D := m.told.filter isI
def gotR (rest : List Mv) : List D := (rest.map gotO).flatten
/-- the whole of a state: nothing twice, nothing lost -/
structure Wh (deeds : List (Option D)) (s : Sg) (m0 : Mv) (rest : List Mv) : Prop where
  ex : ∃ lim C, Ow deeds s.near s.far s.bx m0 lim C ∧ (∀ m ∈ rest, Tw s.bx s.far lim m) ∧ (gotO m0 ++ (gotR rest ++ C)).Perm (laid (deeds.take m0.n.toNat))
theorem gotR_set {rest : List Mv} {i : Nat} {m m' : Mv} (h : rest[i]? = some m) : ∃ A B, gotR rest = A ++ (gotO m ++ B) ∧ gotR (rest.set i m') = A ++ (gotO m' ++ B) := by
  have hl := (List.getElem?_eq_some_iff.mp h).1
  have hm := (List.getElem?_eq_some_iff.mp h).2
  refine ⟨gotR (rest.take i), gotR (rest.drop (i + 1)), ?_, ?_⟩
  · have e : rest = rest.take i ++ m :: rest.drop (i + 1) := by
      rw [← hm, ← List.drop_eq_getElem_cons hl, List.take_append_drop]
    conv => lhs; rw [e]
    simp [gotR]
  · rw [List.set_eq_take_append_cons_drop, if_pos hl]
    simp [gotR]
theorem take_next {n : Int} {x : Option D} (h0 : 0 ≤ n) (h : deeds[n.toNat]? = some x) : laid (deeds.take (n + 1).toNat) = laid (deeds.take n.toNat) ++ laid [x] := by
  rw [show (n + 1).toNat = n.toNat + 1 by omega, List.take_add_one, h]
  unfold laid
  rw [List.filterMap_append]
  rfl
theorem wh_step {s s' : Sg} {m0 : Mv} {rest : List Mv} {w : Nat} (P : Pl deeds tries) (hT : ∀ t, some t ∈ deeds → isI t = true) (I : Inv deeds tries s m0 rest) (W : Wh deeds s m0 rest) (e : step .good deeds tries s w = some s') : ∀ m0' rest', s'.mv = m0' :: rest' → Wh deeds s' m0' rest' := by
  obtain ⟨lim, C, O, T, Pm⟩ := W.ex
  have hI : ∀ d ∈ C, isI d = true := fun d hd => by
    have : d ∈ laid (deeds.take m0.n.toNat) := Pm.mem_iff.mp (List.mem_append_right _ (List.mem_append_right _ hd))
    obtain ⟨x, hx, rfl⟩ := List.mem_filterMap.mp this
    exact hT _ (List.mem_of_mem_take hx)
  obtain ⟨f0, f1, n1⟩ := bounds P I
  have dl := P.dl
  obtain ⟨bl, bs, mv, own, rl, tho⟩ := I
  obtain ⟨near, far, bx, ms⟩ := s
  simp only at bl bs mv own f0 f1 n1 O T
  subst mv
  cases w with
  | zero =>
    cases hd : deeds[m0.n.toNat]? with
    | none => simp [step, hd] at e
    | some x =>
      cases x with
      | none =>
        obtain ⟨lim', C', O', p, hf, hT'⟩ := ow_take O hd f0 (by omega) bl hI
        have es : step .good deeds tries ⟨near, far, bx, m0 :: rest⟩ 0 = some ⟨(stepO .good near far bx m0).1, (stepO .good near far bx m0).2.1, bx, (stepO .good near far bx m0).2.2 :: rest⟩ := by simp [step, hd]
        rw [es] at e
        cases e
        rintro m0' rest' h
        injection h with h1 h2
        subst h1 h2
        refine ⟨lim', C', O', fun m hm => hT' m (T m hm), ?_⟩
        have el : laid (deeds.take (stepO .good near far bx m0).2.2.n.toNat) = laid (deeds.take m0.n.toNat) := by
          have hn : (stepO .good near far bx m0).2.2.n = m0.n ∨ (stepO .good near far bx m0).2.2.n = m0.n + 1 := by
            unfold stepO endM
            split
            · exact .inl rfl
            split
            · exact .inl rfl
            split
            · split
              · exact .inr rfl
              split
              · exact .inr rfl
              · exact .inl rfl
            split
            · split <;> exact .inl rfl
            · exact .inr rfl
          rcases hn with hn | hn
          · rw [hn]
          · rw [hn, take_next own.n0 hd]
            simp [laid]
        rw [el]
        refine List.Perm.trans ?_ Pm
        have p' : (gotO (stepO .good near far bx m0).2.2 ++ C').Perm (gotO m0 ++ C) := p
        have a1 : ∀ A B Cc : List D, (A ++ (B ++ Cc)).Perm (B ++ (A ++ Cc)) := fun A B Cc => by
          rw [← List.append_assoc, ← List.append_assoc]
          exact List.perm_append_comm.append_right _
        exact (a1 _ _ _).trans ((p'.append_left _).trans (a1 _ _ _))
      | some t =>
        obtain ⟨lim', C', O', ht, hC, hT'⟩ := ow_lay O hd f0 (by omega) bl
        have es : step .good deeds tries ⟨near, far, bx, m0 :: rest⟩ 0 = some ⟨(stepL near bx m0 t).1, far, (stepL near bx m0 t).2.1, (stepL near bx m0 t).2.2 :: rest⟩ := by simp [step, hd]
        rw [es] at e
        cases e
        rintro m0' rest' h
        injection h with h1 h2
        subst h1 h2
        refine ⟨lim', C', O', fun m hm => hT' m (T m hm), ?_⟩
        have hg : gotO (stepL near bx m0 t).2.2 = gotO m0 := by unfold gotO; rw [ht]
        have hn : (stepL near bx m0 t).2.2.n = m0.n ∨ (stepL near bx m0 t).2.2.n = m0.n + 1 := by
          unfold stepL
          split
          · exact .inl rfl
          · exact .inr rfl
        rw [hg, hC]
        rcases hn with hn | hn
        · rw [if_pos hn, List.append_nil, hn]
          exact Pm
        · rw [if_neg (by omega), hn, take_next own.n0 hd, ← List.append_assoc, ← List.append_assoc]
          rw [← List.append_assoc] at Pm
          exact Pm.append_right _
  | succ i =>
    cases em : rest[i]? with
    | none => simp [step, em] at e
    | some m =>
      cases ek : tries[i]? with
      | none => simp [step, em, ek] at e
      | some k =>
        by_cases hk : m.n = k
        · simp [step, em, ek, hk] at e
        · have th := tho i m k em ek
          obtain ⟨lim', C', O', p, hT1, hT'⟩ := tw_step O (T m (List.mem_of_getElem? em)) (by
            rcases th.ph with ⟨q, _⟩ | ⟨q, _⟩ | ⟨⟨q, _⟩ | q, _⟩ <;> simp [q]) (by
            intro h3
            rcases th.ph with ⟨q, _, q2⟩ | ⟨q, q2, _⟩ | ⟨⟨q, q2⟩ | q, _⟩
            · exact q2
            · exact q2
            · exact q2
            · exact absurd q h3) f0 (by omega) bl hI
          have es : step .good deeds tries ⟨near, far, bx, m0 :: rest⟩ (i + 1) = some ⟨near, (stepT .good near far bx m).1, bx, m0 :: rest.set i (stepT .good near far bx m).2⟩ := by simp [step, em, ek, hk]
          rw [es] at e
          cases e
          rintro m0' rest' h
          injection h with h1 h2
          subst h1 h2
          refine ⟨lim', C', O', fun m2 hm => ?_, ?_⟩
          · rcases List.mem_or_eq_of_mem_set hm with hm | hm
            · exact hT' m2 (T m2 hm)
            · rw [hm]; exact hT1
          · obtain ⟨A, B, e1, e2⟩ := gotR_set (m' := (stepT .good near far bx m).2) em
            rw [e1] at Pm
            rw [e2]
            refine List.Perm.trans (List.Perm.append_left _ ?_) Pm
            have p' : (gotO (stepT .good near far bx m).2 ++ C').Perm (gotO m ++ C) := p
            have a2 : ∀ X Cc : List D, ((A ++ (X ++ B)) ++ Cc).Perm ((A ++ B) ++ (X ++ Cc)) := fun X Cc => by
              simp only [List.append_assoc]
              refine List.Perm.append_left _ ?_
              rw [← List.append_assoc, ← List.append_assoc]
              exact List.perm_append_comm.append_right _
            exact (a2 _ _).trans ((p'.append_left _).trans (a2 _ _).symm)
end
section
variable {deeds : List (Option D)} {tries : List Int}
def isN (d : Option D) : Bool := d.isNone
/-- as many told as were tried -/
structure Ln (deeds : List (Option D)) (m0 : Mv) (rest : List Mv) : Prop where
  o : m0.told.length = ((deeds.take m0.n.toNat).filter isN).length
  t : ∀ m ∈ rest, (m.told.length : Int) = m.n
theorem stepO_ln (near far : Int) (bx : List D) (m : Mv) : ((stepO .good near far bx m).2.2.n = m.n ∧ (stepO .good near far bx m).2.2.told = m.told) ∨ ((stepO .good near far bx m).2.2.n = m.n + 1 ∧ ∃ w, (stepO .good near far bx m).2.2.told = m.told ++ [w]) := by
  unfold stepO endM
  split
  · exact .inl ⟨rfl, rfl⟩
  split
  · exact .inl ⟨rfl, rfl⟩
  split
  · split
    · exact .inr ⟨rfl, _, rfl⟩
    split
    · exact .inr ⟨rfl, _, rfl⟩
    · exact .inl ⟨rfl, rfl⟩
  split
  · split <;> exact .inl ⟨rfl, rfl⟩
  · exact .inr ⟨rfl, _, rfl⟩
theorem stepT_ln (near far : Int) (bx : List D) (m : Mv) : ((stepT .good near far bx m).2.n = m.n ∧ (stepT .good near far bx m).2.told = m.told) ∨ ((stepT .good near far bx m).2.n = m.n + 1 ∧ ∃ w, (stepT .good near far bx m).2.told = m.told ++ [w]) := by
  unfold stepT endM
  split
  · exact .inl ⟨rfl, rfl⟩
  split
  · dsimp only
    split
    · exact .inr ⟨rfl, _, rfl⟩
    · exact .inl ⟨rfl, rfl⟩
  split
  · exact .inl ⟨rfl, rfl⟩
  split <;> exact .inr ⟨rfl, _, rfl⟩
theorem stepL_ln (near : Int) (bx : List D) (m : Mv) (t : D) : (stepL near bx m t).2.2.told = m.told ∧ ((stepL near bx m t).2.2.n = m.n ∨ (stepL near bx m t).2.2.n = m.n + 1) := by
  unfold stepL
  split
  · exact ⟨rfl, .inl rfl⟩
  · exact ⟨rfl, .inr rfl⟩
theorem take_nx {n : Int} {x : Option D} (h0 : 0 ≤ n) (h : deeds[n.toNat]? = some x) : (deeds.take (n + 1).toNat).filter isN = (deeds.take n.toNat).filter isN ++ [x].filter isN := by
  rw [show (n + 1).toNat = n.toNat + 1 by omega, List.take_add_one, h, List.filter_append]
  rfl
theorem ln_step {s s' : Sg} {m0 : Mv} {rest : List Mv} {w : Nat} (mv : s.mv = m0 :: rest) (n0 : 0 ≤ m0.n) (L : Ln deeds m0 rest) (e : step .good deeds tries s w = some s') : ∀ m0' rest', s'.mv = m0' :: rest' → Ln deeds m0' rest' := by
  obtain ⟨near, far, bx, ms⟩ := s
  simp only at mv
  subst mv
  cases w with
  | zero =>
    cases hd : deeds[m0.n.toNat]? with
    | none => simp [step, hd] at e
    | some x =>
      cases x with
      | none =>
        simp only [step, hd, Option.some.injEq] at e
        subst e
        rintro m0' rest' h
        injection h with h1 h2
        subst h1 h2
        refine ⟨?_, L.t⟩
        rcases stepO_ln near far bx m0 with ⟨a, b⟩ | ⟨a, w, b⟩
        · rw [a, b]; exact L.o
        · rw [a, b, take_nx n0 hd, List.length_append, List.length_append, L.o]; rfl
      | some t =>
        simp only [step, hd, Option.some.injEq] at e
        subst e
        rintro m0' rest' h
        injection h with h1 h2
        subst h1 h2
        refine ⟨?_, L.t⟩
        obtain ⟨a, b | b⟩ := stepL_ln near bx m0 t
        · rw [a, b]; exact L.o
        · rw [a, b, take_nx n0 hd, List.length_append, L.o]; rfl
  | succ i =>
    cases em : rest[i]? with
    | none => simp [step, em] at e
    | some m =>
      cases ek : tries[i]? with
      | none => simp [step, em, ek] at e
      | some k =>
        by_cases hk : m.n = k
        · simp [step, em, ek, hk] at e
        · simp only [step, em, ek, hk, if_false, Option.some.injEq] at e
          subst e
          rintro m0' rest' h
          injection h with h1 h2
          subst h1 h2
          refine ⟨L.o, fun m2 hm => ?_⟩
          rcases List.mem_or_eq_of_mem_set hm with hm | hm
          · exact L.t m2 hm
          · rw [hm]
            have := L.t m (List.mem_of_getElem? em)
            rcases stepT_ln near far bx m with ⟨a, b⟩ | ⟨a, w, b⟩
            · rw [a, b]; exact this
            · rw [a, b, List.length_append]; simp; exact this
/-- all that holds of a state -/
def GW (deeds : List (Option D)) (tries : List Int) (s : Sg) : Prop := ∃ m0 rest, Inv deeds tries s m0 rest ∧ Wh deeds s m0 rest ∧ Ln deeds m0 rest
theorem init_gw (P : Pl deeds tries) : GW deeds tries (init tries) := by
  refine ⟨_, _, init_inv P, ⟨0, seg (init tries).bx 0 0, .idle (Int.le_refl _), fun m hm => ?_, ?_⟩, ⟨rfl, fun m hm => ?_⟩⟩
  · rw [List.eq_of_mem_replicate hm]
    exact ⟨fun a => absurd rfl a, fun a _ => by rcases a with a | a <;> exact absurd a (by decide), fun a _ => absurd a (by decide)⟩
  · rw [seg_nil (Int.le_refl _)]
    have : ∀ k, gotR (List.replicate k ⟨0, 0, 0, .none, []⟩) = [] := by
      intro k
      induction k with
      | zero => rfl
      | succ k ih => rw [List.replicate_succ]; exact ih
    rw [this]
    exact List.Perm.refl _
  · rw [List.eq_of_mem_replicate hm]; rfl
theorem gw_step {s s' : Sg} {w : Nat} (P : Pl deeds tries) (hT : ∀ t, some t ∈ deeds → isI t = true) (G : GW deeds tries s) (hw : w ≤ tries.length) (e : step .good deeds tries s w = some s') : GW deeds tries s' := by
  obtain ⟨m0, rest, I, W, L⟩ := G
  obtain ⟨m0', rest', I'⟩ := good_step P ⟨m0, rest, I⟩ hw e
  exact ⟨m0', rest', I', wh_step P hT I W e _ _ I'.mv, ln_step I.mv I.own.n0 L e _ _ I'.mv⟩
theorem gw_exec {ws : List Nat} (P : Pl deeds tries) (hT : ∀ t, some t ∈ deeds → isI t = true) : ∀ {s s' : Sg}, GW deeds tries s → (∀ w ∈ ws, w ≤ tries.length) → exec .good deeds tries ws s = some s' → GW deeds tries s' := by
  induction ws with
  | nil => intro s s' G _ e; cases e; exact G
  | cons w ws ih =>
    intro s s' G hw e
    obtain ⟨s1, e1, e2⟩ := Option.bind_eq_some_iff.mp e
    exact ih (gw_step P hT G (hw w (List.mem_cons_self ..)) e1) (fun v hv => hw v (List.mem_cons_of_mem _ hv)) e2
end
section
variable {deeds : List (Option D)} {tries : List Int}
/-! ### every small deed comes nearer to the end -/
def mu (k : Int) (m : Mv) : Int := 5 * (k - m.n) - m.ph
theorem stepO_mu (near far k : Int) (bx : List D) (m : Mv) (h : 0 ≤ m.ph ∧ m.ph ≤ 4) : mu k (stepO .good near far bx m).2.2 + 1 ≤ mu k m := by
  unfold stepO endM mu
  split
  · dsimp only; omega
  split
  · dsimp only; omega
  split
  · split
    · dsimp only; omega
    split
    · dsimp only; omega
    · dsimp only; omega
  split
  · split <;> dsimp only <;> omega
  · dsimp only; omega
theorem stepT_mu (near far k : Int) (bx : List D) (m : Mv) (h : 0 ≤ m.ph ∧ m.ph ≤ 3) : mu k (stepT .good near far bx m).2 + 1 ≤ mu k m := by
  unfold stepT endM mu
  split
  · dsimp only; omega
  split
  · dsimp only
    split <;> dsimp only <;> omega
  split
  · dsimp only; omega
  split <;> dsimp only <;> omega
theorem stepL_mu (near k : Int) (bx : List D) (m : Mv) (t : D) (h : 0 ≤ m.ph ∧ m.ph ≤ 4) : mu k (stepL near bx m t).2.2 + 1 ≤ mu k m := by
  unfold stepL mu
  split
  · dsimp only; omega
  · dsimp only; omega
def totR : List Mv → List Int → Int
  | m :: ms, k :: ks => mu k m + totR ms ks
  | _, _ => 0
theorem totR_set : ∀ {rest : List Mv} {tries : List Int} {i : Nat} {m m' : Mv} {k : Int}, rest[i]? = some m → tries[i]? = some k → totR (rest.set i m') tries = totR rest tries - mu k m + mu k m' := by
  intro rest
  induction rest with
  | nil => intro tries i m m' k h; cases h
  | cons a rest ih =>
    intro tries i m m' k h1 h2
    cases tries with
    | nil => cases h2
    | cons b tries =>
      cases i with
      | zero =>
        cases h1
        cases h2
        simp only [List.set_cons_zero, totR]
        omega
      | succ i =>
        have := ih (m' := m') (i := i) (show rest[i]? = some m from h1) (show tries[i]? = some k from h2)
        simp only [List.set_cons_succ, totR]
        omega
def tot (deeds : List (Option D)) (tries : List Int) (s : Sg) : Int := match s.mv with
  | [] => 0
  | m0 :: rest => mu deeds.length m0 + totR rest tries
theorem tot_step {s s' : Sg} {m0 : Mv} {rest : List Mv} {w : Nat} (I : Inv deeds tries s m0 rest) (e : step .good deeds tries s w = some s') : tot deeds tries s' + 1 ≤ tot deeds tries s := by
  obtain ⟨bl, bs, mv, own, rl, tho⟩ := I
  have op := own.ph
  obtain ⟨near, far, bx, ms⟩ := s
  simp only at mv
  subst mv
  have hp : 0 ≤ m0.ph ∧ m0.ph ≤ 4 := by omega
  cases w with
  | zero =>
    cases hd : deeds[m0.n.toNat]? with
    | none => simp [step, hd] at e
    | some x =>
      cases x with
      | none =>
        simp only [step, hd, Option.some.injEq] at e
        subst e
        have := stepO_mu near far deeds.length bx m0 hp
        simp only [tot]
        omega
      | some t =>
        simp only [step, hd, Option.some.injEq] at e
        subst e
        have := stepL_mu near deeds.length bx m0 t hp
        simp only [tot]
        omega
  | succ i =>
    cases em : rest[i]? with
    | none => simp [step, em] at e
    | some m =>
      cases ek : tries[i]? with
      | none => simp [step, em, ek] at e
      | some k =>
        by_cases hk : m.n = k
        · simp [step, em, ek, hk] at e
        · simp only [step, em, ek, hk, if_false, Option.some.injEq] at e
          subst e
          have tp := (tho i m k em ek).ph
          have := stepT_mu near far k bx m (by omega)
          simp only [tot]
          rw [totR_set em ek]
          omega
end
section
variable {deeds : List (Option D)} {tries : List Int}
theorem totR_nonneg : ∀ {rest : List Mv} {tries : List Int}, (∀ (i : Nat) (m : Mv) (k : Int), rest[i]? = some m → tries[i]? = some k → 0 ≤ mu k m) → 0 ≤ totR rest tries := by
  intro rest
  induction rest with
  | nil => intro tries _; unfold totR; exact Int.le_refl _
  | cons a rest ih =>
    intro tries h
    cases tries with
    | nil => exact Int.le_refl _
    | cons b tries =>
      have h1 := h 0 a b rfl rfl
      have h2 := ih (tries := tries) fun i m k e1 e2 => h (i + 1) m k e1 e2
      simp only [totR]
      omega
/-- a mover that cannot step has done all -/
theorem own_done {s : Sg} {m0 : Mv} {rest : List Mv} (I : Inv deeds tries s m0 rest) (e : step .good deeds tries s 0 = none) : m0.n = deeds.length ∧ m0.ph = 0 ∧ m0.f = 0 ∧ m0.x = .none := by
  obtain ⟨bl, bs, mv, own, rl, tho⟩ := I
  obtain ⟨near, far, bx, ms⟩ := s
  simp only at mv own
  subst mv
  cases hd : deeds[m0.n.toNat]? with
  | some x => cases x <;> simp [step, hd] at e
  | none =>
    have h1 := List.getElem?_eq_none_iff.mp hd
    have h2 := own.n0
    have h3 := own.n1
    refine ⟨by omega, ?_⟩
    rcases own.ph with ⟨a, b, c, _⟩ | ⟨_, ⟨t, ht⟩, _⟩ | ⟨ht, _⟩
    · exact ⟨a, b, c⟩
    · rw [hd] at ht; cases ht
    · rw [hd] at ht; cases ht
theorem thief_done {s : Sg} {m0 m : Mv} {rest : List Mv} {i : Nat} {k : Int} (I : Inv deeds tries s m0 rest) (em : rest[i]? = some m) (ek : tries[i]? = some k) (e : step .good deeds tries s (i + 1) = none) : m.n = k := by
  obtain ⟨bl, bs, mv, own, rl, tho⟩ := I
  obtain ⟨near, far, bx, ms⟩ := s
  simp only at mv
  subst mv
  by_cases hk : m.n = k
  · exact hk
  · simp [step, em, ek, hk] at e
theorem init_tot (P : Pl deeds tries) : tot deeds tries (init tries) ≤ 60 := by
  have dl := P.dl
  have tl := P.tl
  have hk := P.tk
  have e : (init tries).mv = ⟨0, 0, 0, .none, []⟩ :: List.replicate tries.length ⟨0, 0, 0, .none, []⟩ := (init_inv P).mv
  unfold tot
  rw [e]
  have : totR (List.replicate tries.length ⟨0, 0, 0, .none, []⟩) tries ≤ 30 := by
    match tries, tl, hk with
    | [], _, _ => simp [totR]
    | [a], _, hk =>
      have := hk a (by simp)
      simp only [totR, mu, List.length_cons, List.length_nil, List.replicate]
      omega
    | [a, b], _, hk =>
      have := hk a (by simp)
      have := hk b (by simp)
      simp only [totR, mu, List.length_cons, List.length_nil, List.replicate]
      omega
    | a :: b :: c :: r, tl, _ => exact absurd tl (by simp)
  simp only [mu]
  omega
end
section
variable {deeds : List (Option D)} {tries : List Int}
/-- a thief that has done all stands still -/
def Dn (tries : List Int) (rest : List Mv) : Prop := ∀ (i : Nat) (m : Mv) (k : Int), rest[i]? = some m → tries[i]? = some k → m.n = k → m.ph = 0
theorem stepT_dn (near far : Int) (bx : List D) (m : Mv) : (stepT .good near far bx m).2.n = m.n ∨ (stepT .good near far bx m).2.ph = 0 := by
  unfold stepT endM
  split
  · exact .inl rfl
  split
  · dsimp only
    split
    · exact .inr rfl
    · exact .inl rfl
  split
  · exact .inl rfl
  split <;> exact .inr rfl
theorem dn_step {s s' : Sg} {m0 : Mv} {rest : List Mv} {w : Nat} (mv : s.mv = m0 :: rest) (L : Dn tries rest) (e : step .good deeds tries s w = some s') : ∀ m0' rest', s'.mv = m0' :: rest' → Dn tries rest' := by
  obtain ⟨near, far, bx, ms⟩ := s
  simp only at mv
  subst mv
  cases w with
  | zero =>
    cases hd : deeds[m0.n.toNat]? with
    | none => simp [step, hd] at e
    | some x =>
      cases x <;>
      · simp only [step, hd, Option.some.injEq] at e
        subst e
        rintro m0' rest' h
        injection h with h1 h2
        subst h1 h2
        exact L
  | succ i =>
    cases em : rest[i]? with
    | none => simp [step, em] at e
    | some m =>
      cases ek : tries[i]? with
      | none => simp [step, em, ek] at e
      | some k =>
        by_cases hk : m.n = k
        · simp [step, em, ek, hk] at e
        · simp only [step, em, ek, hk, if_false, Option.some.injEq] at e
          subst e
          rintro m0' rest' h
          injection h with h1 h2
          subst h1 h2
          intro j m2 k2 e1 e2 h3
          by_cases hj : i = j
          · subst hj
            have hl := (List.getElem?_eq_some_iff.mp em).1
            rw [List.getElem?_set_self hl] at e1
            cases e1
            rw [ek] at e2
            cases e2
            rcases stepT_dn near far bx m with a | a
            · exact absurd (a.symm.trans h3) hk
            · exact a
          · rw [List.getElem?_set_ne hj] at e1
            exact L j m2 k2 e1 e2 h3
theorem thief_mu {s : Sg} {m0 m : Mv} {rest : List Mv} {i : Nat} {k : Int} (I : Inv deeds tries s m0 rest) (L : Dn tries rest) (em : rest[i]? = some m) (ek : tries[i]? = some k) : 0 ≤ mu k m ∧ (m.n ≠ k → 0 < mu k m) := by
  have th := I.th i m k em ek
  have h1 := th.n1
  have h2 := th.ph
  have h3 := L i m k em ek
  unfold mu
  omega
theorem own_mu {s : Sg} {m0 : Mv} {rest : List Mv} (I : Inv deeds tries s m0 rest) : 0 ≤ mu deeds.length m0 := by
  have h1 := I.own.n1
  have h0 := I.own.n0
  unfold mu
  rcases I.own.ph with ⟨a, b, c, _⟩ | ⟨a, ⟨t, ht⟩, _⟩ | ⟨ht, a⟩
  · omega
  · have := (List.getElem?_eq_some_iff.mp ht).1
    omega
  · have := (List.getElem?_eq_some_iff.mp ht).1
    omega
theorem tot_nonneg {s : Sg} {m0 : Mv} {rest : List Mv} (I : Inv deeds tries s m0 rest) (L : Dn tries rest) : 0 ≤ tot deeds tries s := by
  unfold tot
  rw [I.mv]
  have := own_mu I
  have := totR_nonneg (rest := rest) (tries := tries) fun i m k e1 e2 => (thief_mu I L e1 e2).1
  dsimp only
  omega
end
section
variable {deeds : List (Option D)} {tries : List Int}
/-- all that holds of a state, with the standing still of those that are done -/
def GX (deeds : List (Option D)) (tries : List Int) (s : Sg) : Prop := ∃ m0 rest, Inv deeds tries s m0 rest ∧ Wh deeds s m0 rest ∧ Ln deeds m0 rest ∧ Dn tries rest
theorem init_gx (P : Pl deeds tries) : GX deeds tries (init tries) := by
  obtain ⟨m0, rest, I, W, L⟩ := init_gw P
  refine ⟨m0, rest, I, W, L, fun i m k e1 _ _ => ?_⟩
  have h : m0 :: rest = ⟨0, 0, 0, .none, []⟩ :: List.replicate tries.length ⟨0, 0, 0, .none, []⟩ := I.mv.symm.trans (init_inv P).mv
  injection h with _ h2
  rw [h2] at e1
  rw [List.eq_of_mem_replicate (List.mem_of_getElem? e1)]
theorem gx_step {s s' : Sg} {w : Nat} (P : Pl deeds tries) (hT : ∀ t, some t ∈ deeds → isI t = true) (G : GX deeds tries s) (hw : w ≤ tries.length) (e : step .good deeds tries s w = some s') : GX deeds tries s' := by
  obtain ⟨m0, rest, I, W, L, Q⟩ := G
  obtain ⟨m0', rest', I'⟩ := good_step P ⟨m0, rest, I⟩ hw e
  exact ⟨m0', rest', I', wh_step P hT I W e _ _ I'.mv, ln_step I.mv I.own.n0 L e _ _ I'.mv, dn_step I.mv Q e _ _ I'.mv⟩
theorem gx_tot {s s' : Sg} {w : Nat} (G : GX deeds tries s) (e : step .good deeds tries s w = some s') : tot deeds tries s' + 1 ≤ tot deeds tries s := by
  obtain ⟨m0, rest, I, _⟩ := G
  exact tot_step I e
theorem gx_nonneg {s : Sg} (G : GX deeds tries s) : 0 ≤ tot deeds tries s := by
  obtain ⟨m0, rest, I, _, _, Q⟩ := G
  exact tot_nonneg I Q
/-- nothing left to do: nobody steps -/
theorem gx_end {s : Sg} {w : Nat} (P : Pl deeds tries) (hT : ∀ t, some t ∈ deeds → isI t = true) (G : GX deeds tries s) (hw : w ≤ tries.length) (h : tot deeds tries s ≤ 0) : step .good deeds tries s w = none := by
  cases e : step .good deeds tries s w with
  | none => rfl
  | some s' =>
    have := gx_tot G e
    have := gx_nonneg (gx_step P hT G hw e)
    omega
end
end K51


namespace K51
open PySem PySem.Spec L2 PyProof.Rows Bv
/-! ### a search through all states, of data -/
structure Sr (play rules : D) (G : D → Prop) (succ : D → List (Int × D)) (d0 : D) (all : List D) : Prop where
  first : f_first_state [play] = .ok d0
  g0 : G d0
  next : ∀ d, G d → f_steps_from [play, rules, d] = .ok (.list ((succ d).map fun p => .tuple [.int p.1, p.2]))
  gs : ∀ d, G d → ∀ p ∈ succ d, G p.2
  key : ∀ d, G d → ∃ k, dkey d = some k
  inj : ∀ d e, G d → G e → dkey d = dkey e → d = e
  tup : ∀ d, G d → isTup d = true ∧ imm d = true
  sh : ∀ d, G d → nodict d = true ∧ PyData.canLay0 d = true ∧ d.depth ≤ 5
  mem : ∀ d, G d → d ∈ all
  few : all.length < 16000000
  ip : imm play = true
  ir : imm rules = true
/-- a row without a thing twice is no longer than what it is of -/
theorem nodup_len {A : Type} : ∀ {xs ys : List A}, xs.Nodup → (∀ x ∈ xs, x ∈ ys) → xs.length ≤ ys.length
  | [], _, _, _ => Nat.zero_le _
  | x :: xs, ys, h, k => by
    obtain ⟨a, b, e⟩ := List.append_of_mem (k x List.mem_cons_self)
    subst e
    have := nodup_len (xs := xs) (ys := a ++ b) (List.nodup_cons.mp h).2 fun y hy => by
      have := k y (List.mem_cons_of_mem _ hy)
      rcases List.mem_append.mp this with q | q
      · exact List.mem_append.mpr (.inl q)
      · rcases List.mem_cons.mp q with q | q
        · subst q; exact absurd hy (List.nodup_cons.mp h).1
        · exact List.mem_append.mpr (.inr q)
    simp only [List.length_cons, List.length_append] at *
    omega
section
variable {play rules : D} {G : D → Prop} {succ : D → List (Int × D)} {d0 : D} {all : List D}
abbrev ks (E : List (D × D)) : List D := E.map (·.1)
/-- what holds within the search -/
structure Lp (G : D → Prop) (succ : D → List (Int × D)) (d0 : D) (x : Option D) (E : List (D × D)) (W Ls : List D) : Prop where
  keys : ∀ d ∈ ks E, G d
  nd : (ks E).Nodup
  head : E[0]? = some (d0, .none)
  par : ∀ (i : Nat) (d v : D), E[i]? = some (d, v) → i = 0 ∨ ∃ (j : Nat) (p v' : D) (w : Int), j < i ∧ E[j]? = some (p, v') ∧ v = .tuple [p, .int w] ∧ (w, d) ∈ succ p
  wait : ∀ d ∈ W, d ∈ ks E
  wnd : W.Nodup
  done : ∀ d ∈ ks E, d ∈ W ∨ some d = x ∨ ∀ p ∈ succ d, p.2 ∈ ks E
  last : ∀ d, d ∈ Ls ↔ d ∈ ks E ∧ d ∉ W ∧ succ d = []
  lnd : Ls.Nodup
  num : Ls.length + W.length ≤ E.length
theorem look_mem (S : Sr play rules G succ d0 all) {E : List (D × D)} (hk : ∀ d ∈ ks E, G d) {d : D} (g : G d) {k : NestedKey} (ek : dkey d = some k) : (lookD E k).isSome = true ↔ d ∈ ks E := by
  unfold lookD
  rw [Option.isSome_map, List.find?_isSome]
  constructor
  · rintro ⟨p, hp, q⟩
    have q := of_decide_eq_true q
    have := S.inj p.1 d (hk _ (List.mem_map.mpr ⟨p, hp, rfl⟩)) g (q.trans ek.symm)
    exact List.mem_map.mpr ⟨p, hp, this⟩
  · intro h
    obtain ⟨p, hp, rfl⟩ := List.mem_map.mp h
    exact ⟨p, hp, decide_eq_true ek⟩
theorem look_at (S : Sr play rules G succ d0 all) {E : List (D × D)} (hk : ∀ d ∈ ks E, G d) (hn : (ks E).Nodup) {d v : D} (h : (d, v) ∈ E) {k : NestedKey} (ek : dkey d = some k) : lookD E k = some v := by
  induction E with
  | nil => cases h
  | cons p E ih =>
    unfold lookD
    rw [List.find?_cons]
    rcases List.mem_cons.mp h with rfl | h
    · simp [ek]
    · have hne : p.1 ≠ d := fun z => (List.nodup_cons.mp hn).1 (by show p.1 ∈ _; rw [z]; exact List.mem_map.mpr ⟨_, h, rfl⟩)
      have : decide (dkey p.1 = some k) = false := decide_eq_false fun z => hne (S.inj _ _ (hk _ List.mem_cons_self) (hk _ (List.mem_cons_of_mem _ (List.mem_map.mpr ⟨_, h, rfl⟩))) (z.trans ek.symm))
      simp only [this]
      exact ih (fun e he => hk e (List.mem_cons_of_mem _ he)) (List.nodup_cons.mp hn).2 h
theorem Lp.len (S : Sr play rules G succ d0 all) {x : Option D} {E : List (D × D)} {W Ls : List D} (h : Lp G succ d0 x E W Ls) : E.length ≤ all.length := by
  have := nodup_len h.nd fun d hd => S.mem d (h.keys d hd)
  rwa [List.length_map] at this
/-- one more state met -/
theorem Lp.more {d p : D} {w : Int} {E : List (D × D)} {W Ls : List D} (h : Lp G succ d0 (some d) E W Ls) (hd : d ∈ ks E) (hs : (w, p) ∈ succ d) (g : G p) (hp : p ∉ ks E) : Lp G succ d0 (some d) (E ++ [(p, .tuple [d, .int w])]) (W ++ [p]) Ls := by
  have kk : ks (E ++ [(p, .tuple [d, .int w])]) = ks E ++ [p] := by simp [ks]
  refine ⟨fun e he => ?_, ?_, ?_, fun i e v he => ?_, fun e he => ?_, ?_, fun e he => ?_, fun e => ?_, h.lnd, ?_⟩
  · rw [kk] at he
    rcases List.mem_append.mp he with he | he
    · exact h.keys e he
    · rw [List.mem_singleton.mp he]; exact g
  · rw [kk]
    exact List.nodup_append.mpr ⟨h.nd, by simp, fun a ha b hb => by rw [List.mem_singleton.mp hb]; exact fun z => hp (z ▸ ha)⟩
  · have := h.head
    have hl : 0 < E.length := (List.getElem?_eq_some_iff.mp this).1
    rw [List.getElem?_append_left hl]; exact this
  · by_cases hi : i < E.length
    · rw [List.getElem?_append_left hi] at he
      rcases h.par i e v he with q | ⟨j, p', v', w', q1, q2, q3⟩
      · exact .inl q
      · exact .inr ⟨j, p', v', w', q1, by rw [List.getElem?_append_left (by omega)]; exact q2, q3⟩
    · rw [List.getElem?_append_right (by omega)] at he
      have : i - E.length = 0 := by
        cases q : i - E.length with
        | zero => rfl
        | succ n => rw [q] at he; cases he
      rw [this] at he
      cases he
      obtain ⟨q, hq, e1⟩ := List.mem_map.mp hd
      obtain ⟨j, hj, e2⟩ := List.getElem_of_mem hq
      exact .inr ⟨j, d, q.2, w, by omega, by rw [List.getElem?_append_left hj, List.getElem?_eq_getElem hj, e2, ← e1], rfl, hs⟩
  · rw [kk]
    rcases List.mem_append.mp he with he | he
    · exact List.mem_append.mpr (.inl (h.wait e he))
    · exact List.mem_append.mpr (.inr he)
  · exact List.nodup_append.mpr ⟨h.wnd, by simp, fun a ha b hb => by rw [List.mem_singleton.mp hb]; exact fun z => hp (z ▸ h.wait a ha)⟩
  · rw [kk] at he ⊢
    rcases List.mem_append.mp he with he | he
    · rcases h.done e he with q | q | q
      · exact .inl (List.mem_append.mpr (.inl q))
      · exact .inr (.inl q)
      · exact .inr (.inr fun p' hp' => List.mem_append.mpr (.inl (q p' hp')))
    · exact .inl (List.mem_append.mpr (.inr he))
  · rw [h.last, kk]
    constructor
    · rintro ⟨q1, q2, q3⟩
      exact ⟨List.mem_append.mpr (.inl q1), fun z => (List.mem_append.mp z).elim q2 fun z => hp (List.mem_singleton.mp z ▸ q1), q3⟩
    · rintro ⟨q1, q2, q3⟩
      have q2' : e ∉ W ∧ e ≠ p := ⟨fun z => q2 (List.mem_append.mpr (.inl z)), fun z => q2 (List.mem_append.mpr (.inr (by rw [z]; exact List.mem_singleton.mpr rfl)))⟩
      refine ⟨(List.mem_append.mp q1).elim id fun z => absurd (List.mem_singleton.mp z) q2'.2, q2'.1, q3⟩
  · have := h.num
    simp only [List.length_append, List.length_singleton]
    omega
/-! the loops -/
theorem shp_row {xs : List D} (h : ∀ d ∈ xs, nodict d = true ∧ PyData.canLay0 d = true ∧ d.depth ≤ 20) : shp (.list xs) = true := by
  have h1 : ∀ xs : List D, (∀ d ∈ xs, nodict d = true ∧ PyData.canLay0 d = true ∧ d.depth ≤ 20) → nodictA xs = true ∧ PyData.canLayAll0 xs = true ∧ PyData.depthAll xs ≤ 20 := fun xs => by
    induction xs with
    | nil => intro _; exact ⟨rfl, rfl, by simp [PyData.depthAll]⟩
    | cons x xs ih =>
      intro h
      obtain ⟨a, b, c⟩ := ih fun d hd => h d (List.mem_cons_of_mem _ hd)
      obtain ⟨a', b', c'⟩ := h x List.mem_cons_self
      refine ⟨by simp [nodictA, a, a'], by simp [PyData.canLayAll0, b, b'], by simp only [PyData.depthAll]; omega⟩
  obtain ⟨a, b, c⟩ := h1 xs h
  have c' : PyData.depth (.list xs) ≤ 64 := by simp only [PyData.depth]; omega
  simp [shp, nodict, a, SeqAt.shaped, PyData.canLay0, b, c']
theorem dEq_row {xs : List D} (h : ∀ d ∈ xs, nodict d = true ∧ PyData.canLay0 d = true ∧ d.depth ≤ 20) : dEq (.list xs) (.list []) = .ok (.bool xs.isEmpty) := by
  have e : dEq (.list xs) (.list []) = if shp (.list xs) = true ∧ shp (.list []) = true then .ok (.bool (PyData.eqv (.list xs) (.list []))) else .un := rfl
  rw [e, if_pos ⟨shp_row h, shp_ints []⟩]
  cases xs <;> simp [PyData.eqv, PyData.eqvAll]
def ibody : Env' → Res := (sif [3] (asB (bi2 dNotIn (var 9) (var 3)))
          (sseq (dput 3 [] (var 9) (tupD (acons (var 6) (acons (var 8) anil))))
          (app 4 [] (var 9)))
          snext)
def envS (play rules d0 : D) (E : List (D × D)) (W Ls : List D) (d : D) (b7 b8 b9 : Sl) : Env' :=
  [.fz play, .fz rules, .fz d0, .ow 1 (.dict ((.none, .int 1) :: E)), .ow 1 (.list W), .ow 1 (.list Ls), .fz d, b7, b8, b9]
theorem ibody_at (S : Sr play rules G succ d0 all) {d p s7 : D} {w : Int} {E : List (D × D)} {W Ls : List D} (h : Lp G succ d0 (some d) E W Ls) (hd : d ∈ ks E) (hs : (w, p) ∈ succ d) :
    ∃ E' W', ibody (envS play rules d0 E W Ls d (.fz s7) (.fz (.int w)) (.fz p)) = .nx (envS play rules d0 E' W' Ls d (.fz s7) (.fz (.int w)) (.fz p)) ∧ Lp G succ d0 (some d) E' W' Ls ∧ p ∈ ks E' ∧ (∀ e ∈ ks E, e ∈ ks E') ∧ W'.length + E.length = W.length + E'.length := by
  have gd := h.keys d hd
  have gp := S.gs d gd _ hs
  obtain ⟨k, ek⟩ := S.key p gp
  obtain ⟨tp, ip⟩ := S.tup p gp
  obtain ⟨_, id'⟩ := S.tup d gd
  have lm := look_mem S h.keys gp ek
  have hl : dNotIn p (.dict ((.none, .int 1) :: E)) = .ok (.bool !(lookD E k).isSome) := by
    unfold dNotIn dLook
    simp [tp, ek]
  by_cases hin : p ∈ ks E
  · refine ⟨E, W, ?_, h, hin, fun e he => he, by omega⟩
    have e1 : (lookD E k).isSome = true := lm.mpr hin
    rw [e1] at hl
    simp -implicitDefEqProofs [ibody, envS, hl]
  · have e1 : (lookD E k).isSome = false := by
      cases q : (lookD E k).isSome with
      | false => rfl
      | true => exact absurd (lm.mp q) hin
    have h2 := h.more hd hs gp hin
    refine ⟨_, _, ?_, h2, by simp [ks], fun e he => by simp only [ks, List.map_append]; exact List.mem_append.mpr (.inl he), by simp only [List.length_append, List.length_singleton]; omega⟩
    have l2 := h2.len S
    have n2 := h2.num
    simp only [List.length_append, List.length_singleton] at l2 n2
    have few := S.few
    have hst : putD (.int 1) E p (.tuple [d, .int w]) = some (E ++ [(p, .tuple [d, .int w])]) := by
      unfold putD storeD
      simp [tp, ek, e1]
    rw [e1] at hl
    simp -implicitDefEqProofs [ibody, envS, hl, dput, ip, id', hst, show E.length < 16000000 by omega]
    exact app1 (xs := W) (d := p) rfl (by simp) ip (by omega)
theorem iloop (S : Sr play rules G succ d0 all) {d s7 : D} {E : List (D × D)} {W Ls : List D} (h : Lp G succ d0 (some d) E W Ls) (hd : d ∈ ks E) (b8 b9 : Sl) :
    ∃ E' W' c8 c9, forL (bTup [8, 9]) ibody ((succ d).map fun p => .tuple [.int p.1, p.2]) (envS play rules d0 E W Ls d (.fz s7) b8 b9) = .nx (envS play rules d0 E' W' Ls d (.fz s7) c8 c9) ∧ Lp G succ d0 none E' W' Ls ∧ W'.length + E.length = W.length + E'.length := by
  obtain ⟨ρ', e, E', W', c8, c9, rfl, h2, h3, h4, h5⟩ := forL_ix (b := bTup [8, 9]) (g := ibody) (xs := (succ d).map fun p => .tuple [.int p.1, p.2]) (k := 0) (ρ := envS play rules d0 E W Ls d (.fz s7) b8 b9)
    (fun k ρ => ∃ E' W' c8 c9, ρ = envS play rules d0 E' W' Ls d (.fz s7) c8 c9 ∧ Lp G succ d0 (some d) E' W' Ls ∧ (∀ p ∈ (succ d).take k, p.2 ∈ ks E') ∧ d ∈ ks E' ∧ W'.length + E.length = W.length + E'.length)
    ⟨E, W, b8, b9, rfl, h, by simp, hd, by omega⟩ (by
      rintro i dd hi ρ ⟨E', W', c8, c9, rfl, h2, h3, h4, h5⟩
      rw [Nat.zero_add] at h3 ⊢
      rw [List.getElem?_map] at hi
      obtain ⟨p, hp, rfl⟩ := Option.map_eq_some_iff.mp hi
      obtain ⟨E2, W2, e2, k1, k2, k3, k4⟩ := ibody_at S (s7 := s7) (w := p.1) (p := p.2) h2 h4 (List.mem_of_getElem? hp)
      refine ⟨_, _, rfl, e2, E2, W2, _, _, rfl, k1, fun q hq => ?_, k3 _ h4, by omega⟩
      rw [List.take_add_one, hp] at hq
      rcases List.mem_append.mp hq with hq | hq
      · exact k3 _ (h3 q hq)
      · have : q = p := by simpa using hq
        rw [this]; exact k2)
  refine ⟨E', W', c8, c9, e, ⟨h2.keys, h2.nd, h2.head, h2.par, h2.wait, h2.wnd, fun e he => ?_, h2.last, h2.lnd, h2.num⟩, h5⟩
  rcases h2.done e he with q | q | q
  · exact .inl q
  · cases q
    refine .inr (.inr fun p hp => h3 p ?_)
    rw [List.length_map, Nat.zero_add, List.take_length]
    exact hp
  · exact .inr (.inr q)
end
end K51



namespace K51
open PySem PySem.Spec L2 PyProof.Rows Bv
section
variable {play rules : D} {G : D → Prop} {succ : D → List (Int × D)} {d0 : D} {all : List D}
def obody : Env' → Res := (sseq (popA 6 4)
      (sseq (asg 7 [] (cal f_steps_from (acons (var 0) (acons (var 1) (acons (var 6) anil)))))
      (sseq (sif [] (asB (bi2 dEq (var 7) (lstD (lstF anil))))
        (app 5 [] (var 6))
        snext)
      (sfor [] (bTup [8, 9]) (var 7) ibody))))
def ocond : Vw → Rv Bool := (asB (bi2 dNe (var 4) (lstD (lstF anil))))
def envO (play rules d0 : D) (E : List (D × D)) (W Ls : List D) (b6 b7 b8 b9 : Sl) : Env' :=
  [.fz play, .fz rules, .fz d0, .ow 1 (.dict ((.none, .int 1) :: E)), .ow 1 (.list W), .ow 1 (.list Ls), b6, b7, b8, b9]
theorem gone_def : m_gone_through = sseq (asg 2 [] (cal f_first_state (acons (var 0) anil))) (sseq (asgD1 3 (var 2) (cst .none)) (sseq (asgF 4 [] (lstF (acons (var 2) anil))) (sseq (asgF 5 [] (lstF anil))
    (sseq (fun ρ => whileL [4] ocond obody ((fun _ => 1000000000) ρ) ρ) (Bv.ret [3, 5] (tupD (acons (var 3) (acons (var 5) anil)))))))) := rfl
theorem oturn (S : Sr play rules G succ d0 all) {E : List (D × D)} {W0 Ls : List D} {d : D} (h : Lp G succ d0 none E (W0 ++ [d]) Ls) (b6 b7 b8 b9 : Sl) :
    ∃ E' W' Ls' c6 c7 c8 c9, obody (envO play rules d0 E (W0 ++ [d]) Ls b6 b7 b8 b9) = .nx (envO play rules d0 E' W' Ls' c6 c7 c8 c9) ∧ Lp G succ d0 none E' W' Ls' ∧ W'.length + E.length = W0.length + E'.length := by
  have hd : d ∈ ks E := h.wait d (List.mem_append.mpr (.inr (List.mem_singleton.mpr rfl)))
  have gd := h.keys d hd
  have wn := List.nodup_append.mp h.wnd
  have dW : d ∉ W0 := fun z => wn.2.2 d z d (List.mem_singleton.mpr rfl) rfl
  have dL : d ∉ Ls := fun z => ((h.last d).mp z).2.1 (List.mem_append.mpr (.inr (List.mem_singleton.mpr rfl)))
  have num := h.num
  have len := h.len S
  have few := S.few
  simp only [List.length_append, List.length_singleton] at num
  have hsh : ∀ x ∈ (succ d).map (fun p => PyData.tuple [.int p.1, p.2]), nodict x = true ∧ PyData.canLay0 x = true ∧ x.depth ≤ 20 := fun x hx => by
    obtain ⟨p, hp, rfl⟩ := List.mem_map.mp hx
    obtain ⟨a, b, c⟩ := S.sh p.2 (S.gs d gd p hp)
    refine ⟨by simp [nodict, nodictA, a], by simp [PyData.canLay0, PyData.canLayAll0, b], by simp only [PyData.depth, PyData.depthAll]; omega⟩
  have e0 : popA 6 4 (envO play rules d0 E (W0 ++ [d]) Ls b6 b7 b8 b9) = .nx (envO play rules d0 E W0 Ls (.fz d) b7 b8 b9) := by
    simp [popA, envO]
  have e1 : asg 7 [] (cal f_steps_from (acons (var 0) (acons (var 1) (acons (var 6) anil)))) (envO play rules d0 E W0 Ls (.fz d) b7 b8 b9) = .nx (envO play rules d0 E W0 Ls (.fz d) (.fz (.list ((succ d).map fun p => .tuple [.int p.1, p.2]))) b8 b9) := by
    simp -implicitDefEqProofs [envO, S.next d gd]
  have base : ∀ Ls', (Ls' = Ls ∨ (Ls' = Ls ++ [d])) → (∀ e, e ∈ Ls' ↔ e ∈ ks E ∧ e ∉ W0 ∧ succ e = []) → Lp G succ d0 (some d) E W0 Ls' := fun Ls' hL hl =>
    ⟨h.keys, h.nd, h.head, h.par, fun e he => h.wait e (List.mem_append.mpr (.inl he)), wn.1, fun e he => (by
      rcases h.done e he with q | q | q
      · rcases List.mem_append.mp q with q | q
        · exact .inl q
        · exact .inr (.inl (by rw [List.mem_singleton.mp q]))
      · cases q
      · exact .inr (.inr q)), hl, (by
      rcases hL with rfl | rfl
      · exact h.lnd
      · exact List.nodup_append.mpr ⟨h.lnd, by simp, fun a ha b hb => by rw [List.mem_singleton.mp hb]; exact fun z => dL (z ▸ ha)⟩), by
      rcases hL with rfl | rfl
      · omega
      · simp only [List.length_append, List.length_singleton]; omega⟩
  obtain ⟨Ls', e2, hL⟩ : ∃ Ls', (sif [] (asB (bi2 dEq (var 7) (lstD (lstF anil)))) (app 5 [] (var 6)) snext) (envO play rules d0 E W0 Ls (.fz d) (.fz (.list ((succ d).map fun p => .tuple [.int p.1, p.2]))) b8 b9) = .nx (envO play rules d0 E W0 Ls' (.fz d) (.fz (.list ((succ d).map fun p => .tuple [.int p.1, p.2]))) b8 b9) ∧ Lp G succ d0 (some d) E W0 Ls' := by
    have eq := dEq_row hsh
    by_cases q : succ d = []
    · refine ⟨Ls ++ [d], ?_, base _ (.inr rfl) fun e => ?_⟩
      · have : (((succ d).map (fun p => PyData.tuple [.int p.1, p.2])).isEmpty) = true := by rw [q]; rfl
        rw [this] at eq
        generalize (succ d).map (fun p => PyData.tuple [.int p.1, p.2]) = ys at eq ⊢
        simp -implicitDefEqProofs [envO, eq]
        exact app1 (xs := Ls) (d := d) rfl (by simp) (S.tup d gd).2 (by omega)
      · constructor
        · intro he
          rcases List.mem_append.mp he with he | he
          · obtain ⟨a, b, c⟩ := (h.last e).mp he
            exact ⟨a, fun z => b (List.mem_append.mpr (.inl z)), c⟩
          · rw [List.mem_singleton.mp he]; exact ⟨hd, dW, q⟩
        · rintro ⟨a, b, c⟩
          by_cases z : e = d
          · exact List.mem_append.mpr (.inr (List.mem_singleton.mpr z))
          · exact List.mem_append.mpr (.inl ((h.last e).mpr ⟨a, fun y => (List.mem_append.mp y).elim b fun y => z (List.mem_singleton.mp y), c⟩))
    · refine ⟨Ls, ?_, base _ (.inl rfl) fun e => ?_⟩
      · have : (((succ d).map (fun p => PyData.tuple [.int p.1, p.2])).isEmpty) = false := by
          cases hs : succ d with
          | nil => exact absurd hs q
          | cons a b => rfl
        rw [this] at eq
        generalize (succ d).map (fun p => PyData.tuple [.int p.1, p.2]) = ys at eq ⊢
        simp -implicitDefEqProofs [envO, eq]
      · constructor
        · intro he
          obtain ⟨a, b, c⟩ := (h.last e).mp he
          exact ⟨a, fun z => b (List.mem_append.mpr (.inl z)), c⟩
        · rintro ⟨a, b, c⟩
          exact (h.last e).mpr ⟨a, fun y => (List.mem_append.mp y).elim b fun y => q ((List.mem_singleton.mp y) ▸ c), c⟩
  obtain ⟨E', W', c8, c9, e3, h3, h4⟩ := iloop S (s7 := .list ((succ d).map fun p => .tuple [.int p.1, p.2])) hL hd b8 b9
  refine ⟨E', W', Ls', .fz d, .fz (.list ((succ d).map fun p => .tuple [.int p.1, p.2])), c8, c9, ?_, h3, h4⟩
  unfold obody
  rw [sseq_nx e0, sseq_nx e1, sseq_nx e2]
  have e4 : ∀ ys : List D, sfor [] (bTup [8, 9]) (var 7) ibody (envO play rules d0 E W0 Ls' (.fz d) (.fz (.list ys)) b8 b9) = forL (bTup [8, 9]) ibody ys (envS play rules d0 E W0 Ls' d (.fz (.list ys)) b8 b9) := fun ys => by
    simp -implicitDefEqProofs [envO, envS]
  rw [e4]
  exact e3
theorem wloop (S : Sr play rules G succ d0 all) : ∀ (n : Nat) {E : List (D × D)} {W Ls : List D} (b6 b7 b8 b9 : Sl), Lp G succ d0 none E W Ls → all.length + W.length + 1 ≤ n + E.length →
    ∃ E' Ls' c6 c7 c8 c9, whileL [4] ocond obody n (envO play rules d0 E W Ls b6 b7 b8 b9) = .nx (envO play rules d0 E' [] Ls' c6 c7 c8 c9) ∧ Lp G succ d0 none E' [] Ls'
  | 0, E, W, Ls, b6, b7, b8, b9, h, hn => by
    have := h.len S
    omega
  | n + 1, E, W, Ls, b6, b7, b8, b9, h, hn => by
    have hsh : ∀ x ∈ W, nodict x = true ∧ PyData.canLay0 x = true ∧ x.depth ≤ 20 := fun x hx => by
      obtain ⟨a, b, c⟩ := S.sh x (h.keys x (h.wait x hx))
      exact ⟨a, b, by omega⟩
    have hc : ocond (vw [4] (envO play rules d0 E W Ls b6 b7 b8 b9)) = .ok (!W.isEmpty) := by
      have e := dEq_row hsh
      have e2 : dNe (.list W) (.list []) = .ok (.bool !W.isEmpty) := by unfold dNe; rw [e]; rfl
      simp -implicitDefEqProofs [ocond, envO, e2]
    unfold whileL
    rw [hc]
    rcases List.eq_nil_or_concat W with rfl | ⟨W0, d, rfl⟩
    · exact ⟨E, Ls, b6, b7, b8, b9, rfl, h⟩
    · rw [List.concat_eq_append] at *
      obtain ⟨E', W', Ls', c6, c7, c8, c9, e, h2, h3⟩ := oturn S h b6 b7 b8 b9
      obtain ⟨E2, L2', c6, c7, c8, c9, e2, h4⟩ := wloop S n c6 c7 c8 c9 h2 (by
        simp only [List.length_append, List.length_singleton] at hn
        omega)
      refine ⟨E2, L2', c6, c7, c8, c9, ?_, h4⟩
      have hne : (!(W0 ++ [d]).isEmpty) = true := by cases W0 <;> rfl
      simp only [Rv.st_ok, hne, if_true, e]
      exact e2
theorem gone_at (S : Sr play rules G succ d0 all) : ∃ E Ls, f_gone_through [play, rules] = .ok (.tuple [.dict ((.none, .int 1) :: E), .list Ls]) ∧ Lp G succ d0 none E [] Ls := by
  obtain ⟨k, ek⟩ := S.key d0 S.g0
  obtain ⟨tp, ip⟩ := S.tup d0 S.g0
  have h0 : Lp G succ d0 none [(d0, .none)] [d0] [] := by
    refine ⟨fun d hd => ?_, by simp [ks], rfl, fun i d v he => ?_, fun d hd => hd, by simp, fun d hd => .inl hd, fun d => ?_, by simp, by simp⟩
    · rw [List.mem_singleton.mp hd]; exact S.g0
    · left
      cases i with
      | zero => rfl
      | succ i => cases he
    · constructor
      · intro z; cases z
      · rintro ⟨a, b, _⟩; exact absurd a b
  have few := S.few
  obtain ⟨E, Ls, c6, c7, c8, c9, e, h⟩ := wloop S 1000000000 .un .un .un .un h0 (by simp only [List.length_singleton]; omega)
  refine ⟨E, Ls, ?_, h⟩
  unfold f_gone_through
  rw [gone_def]
  have e1 : asg 2 [] (cal f_first_state (acons (var 0) anil)) (entry 8 [play, rules]) = .nx [.fz play, .fz rules, .fz d0, .un, .un, .un, .un, .un, .un, .un] := by
    simp -implicitDefEqProofs [S.first, ip]
  have e2 : asgD1 3 (var 2) (cst .none) [.fz play, .fz rules, .fz d0, .un, .un, .un, .un, .un, .un, .un] = .nx [.fz play, .fz rules, .fz d0, .ow 1 (.dict [(.none, .int 1), (d0, .none)]), .un, .un, .un, .un, .un, .un] := by
    simp -implicitDefEqProofs [asgD1, tp, ip, ek]
  have e3 : asgF 4 [] (lstF (acons (var 2) anil)) [.fz play, .fz rules, .fz d0, .ow 1 (.dict [(.none, .int 1), (d0, .none)]), .un, .un, .un, .un, .un, .un] = .nx [.fz play, .fz rules, .fz d0, .ow 1 (.dict [(.none, .int 1), (d0, .none)]), .ow 1 (.list [d0]), .un, .un, .un, .un, .un] := by
    simp -implicitDefEqProofs [ip]
  have e4 : asgF 5 [] (lstF anil) [.fz play, .fz rules, .fz d0, .ow 1 (.dict [(.none, .int 1), (d0, .none)]), .ow 1 (.list [d0]), .un, .un, .un, .un, .un] = .nx (envO play rules d0 [(d0, .none)] [d0] [] .un .un .un .un) := by
    simp -implicitDefEqProofs [envO]
  rw [sseq_nx e1, sseq_nx e2, sseq_nx e3, sseq_nx e4]
  have e5 : (fun ρ => whileL [4] ocond obody ((fun _ => 1000000000) ρ) ρ) (envO play rules d0 [(d0, .none)] [d0] [] .un .un .un .un) = .nx (envO play rules d0 E [] Ls c6 c7 c8 c9) := e
  rw [sseq_nx e5]
  simp -implicitDefEqProofs [envO]
end
end K51



namespace K51
open PySem PySem.Spec L2 PyProof.Rows Bv
section
variable {play rules : D} {G : D → Prop} {succ : D → List (Int × D)} {d0 : D} {all : List D}
/-- a row of small deeds from the first state to d -/
inductive Pth (succ : D → List (Int × D)) (d0 : D) : D → List Int → Prop
  | nil : Pth succ d0 d0 []
  | snoc {p d : D} {ws : List Int} {w : Int} : Pth succ d0 p ws → (w, d) ∈ succ p → Pth succ d0 d (ws ++ [w])
def vbody : Env' → Res := (sseq (untup [1, 3] [] (bi2 dGet (var 0) (var 1)))
      (app 2 [] (var 3)))
def vcond : Vw → Rv Bool := (asB (bi2 dIsNot (bi2 dGet (var 0) (var 1)) (cst .none)))
def envW (E : List (D × D)) (d : D) (fs : List D) (b3 : Sl) : Env' := [.fz (.dict ((.none, .int 1) :: E)), .fz d, .ow 1 (.list fs), b3]
theorem get_at (S : Sr play rules G succ d0 all) {x : Option D} {E : List (D × D)} {W Ls : List D} (h : Lp G succ d0 x E W Ls) {d v : D} (hd : (d, v) ∈ E) : dGet (.dict ((.none, .int 1) :: E)) d = .ok v := by
  have hm : d ∈ ks E := List.mem_map.mpr ⟨_, hd, rfl⟩
  have g := h.keys d hm
  obtain ⟨k, ek⟩ := S.key d g
  have e := look_at S h.keys h.nd hd ek
  unfold dGet dLook
  simp [(S.tup d g).1, ek, e]
theorem walk_back (S : Sr play rules G succ d0 all) {E : List (D × D)} {W Ls : List D} (h : Lp G succ d0 none E W Ls) : ∀ (N i : Nat), i ≤ N → ∀ (d v : D), E[i]? = some (d, v) →
    ∃ ws, Pth succ d0 d ws ∧ ws.length ≤ i ∧ ∀ (n : Nat) (fs : List D) (b3 : Sl), i < n → fs.length + i < 16000000 → ∃ c3, whileL [] vcond vbody n (envW E d fs b3) = .nx (envW E d0 (fs ++ (ws.map PyData.int).reverse) c3) := by
  intro N
  induction N with
  | zero =>
    intro i hi d v he
    have : i = 0 := by omega
    subst this
    rw [h.head] at he
    cases he
    refine ⟨[], .nil, Nat.le_refl _, fun n fs b3 hn hf => ⟨b3, ?_⟩⟩
    obtain ⟨m, rfl⟩ : ∃ m, n = m + 1 := ⟨n - 1, by omega⟩
    have e := get_at S h (List.mem_of_getElem? h.head)
    unfold whileL
    have hc : vcond (vw [] (envW E d0 fs b3)) = .ok false := by simp -implicitDefEqProofs [vcond, envW, e]
    rw [hc]
    simp [envW]
  | succ N ih =>
    intro i hi d v he
    rcases h.par i d v he with rfl | ⟨j, p, v', w, q1, q2, rfl, q4⟩
    · exact ih 0 (Nat.zero_le _) d v he
    · obtain ⟨ws, h1, h2, h3⟩ := ih j (by omega) p v' q2
      refine ⟨ws ++ [w], .snoc h1 q4, by simp; omega, fun n fs b3 hn hf => ?_⟩
      obtain ⟨m, rfl⟩ : ∃ m, n = m + 1 := ⟨n - 1, by omega⟩
      have e := get_at S h (List.mem_of_getElem? he)
      obtain ⟨c3, h4⟩ := h3 m (fs ++ [.int w]) (.fz (.int w)) (by omega) (by simp; omega)
      have gp : G p := h.keys p (List.mem_map.mpr ⟨_, List.mem_of_getElem? q2, rfl⟩)
      have ip := (S.tup p gp).2
      refine ⟨c3, ?_⟩
      unfold whileL
      have hc : vcond (vw [] (envW E d fs b3)) = .ok true := by simp -implicitDefEqProofs [vcond, envW, e]
      have hb : vbody (envW E d fs b3) = .nx (envW E p (fs ++ [.int w]) (.fz (.int w))) := by
        have e1 : untup [1, 3] [] (bi2 dGet (var 0) (var 1)) (envW E d fs b3) = .nx (envW E p fs (.fz (.int w))) := by
          simp -implicitDefEqProofs [untup_def, envW, e]
        unfold vbody
        rw [sseq_nx e1]
        exact app1 (xs := fs) (d := .int w) rfl (by simp [envW]) rfl (by omega)
      rw [hc]
      simp only [Rv.st_ok, if_true, hb]
      rw [h4]
      simp [List.map_append, List.reverse_append]
end
end K51

namespace K51
open PySem PySem.Spec L2 PyProof.Rows Bv
/-! ### how many states there are, at most -/
def rI (n : Nat) : List Int := (List.range (n + 1)).map fun i : Nat => (i : Int)
theorem rI_len (n : Nat) : (rI n).length = n + 1 := by simp [rI]
theorem mem_rI {n : Nat} {i : Int} (h0 : 0 ≤ i) (h1 : i ≤ n) : i ∈ rI n := List.mem_map.mpr ⟨i.toNat, List.mem_range.mpr (by omega), by omega⟩
theorem flat_len {A B : Type} {f : A → List B} {c : Nat} : ∀ {xs : List A}, (∀ x ∈ xs, (f x).length = c) → (xs.flatMap f).length = xs.length * c
  | [], _ => by simp
  | x :: xs, h => by
    rw [List.flatMap_cons, List.length_append, h x List.mem_cons_self, flat_len fun y hy => h y (List.mem_cons_of_mem _ hy), List.length_cons, Nat.succ_mul, Nat.add_comm]
def Xs (deeds : List (Option D)) : List D := .none :: laid deeds
def Ys (deeds : List (Option D)) : List D := .str "lost" :: Xs deeds
def words (ys : List D) : Nat → List (List D)
  | 0 => [[]]
  | k + 1 => (words ys k).flatMap fun w => ys.map fun y => w ++ [y]
theorem words_len (ys : List D) : ∀ k, (words ys k).length = ys.length ^ k
  | 0 => rfl
  | k + 1 => by
    unfold words
    rw [flat_len (c := ys.length) fun _ _ => by simp, words_len ys k, Nat.pow_succ]
theorem words_snoc {ys : List D} {k : Nat} {w : List D} {y : D} (h : w ∈ words ys k) (hy : y ∈ ys) : w ++ [y] ∈ words ys (k + 1) := List.mem_flatMap.mpr ⟨w, h, List.mem_map.mpr ⟨y, hy, rfl⟩⟩
def thIn (N : Nat) (xs : List D) (j : Nat) (told : List D) : List Mv := ⟨j, 0, 0, .none, told⟩ :: (((rI N).map fun f => ⟨j, 1, f, .none, told⟩) ++ (((rI N).map fun f => ⟨j, 2, f, .none, told⟩) ++ (rI N).flatMap fun f => xs.map fun x => ⟨j, 3, f, x, told⟩))
theorem thIn_len (N : Nat) (xs : List D) (j : Nat) (told : List D) : (thIn N xs j told).length = 1 + (N + 1) + (N + 1) + (N + 1) * xs.length := by
  unfold thIn
  rw [List.length_cons, List.length_append, List.length_append, List.length_map, List.length_map, flat_len (c := xs.length) fun _ _ => by simp, rI_len]
  omega
def thAll (N : Nat) (xs ys : List D) (k : Nat) : List Mv := ((words ys k).map fun t => ⟨k, 0, 0, .none, t⟩) ++ (List.range k).flatMap fun j => (words ys j).flatMap fun t => thIn N xs j t
def cS (y c : Nat) : Nat → Nat
  | 0 => 0
  | k + 1 => cS y c k + y ^ k * c
theorem thAll_len (N : Nat) (xs ys : List D) (k : Nat) : (thAll N xs ys k).length = ys.length ^ k + cS ys.length (1 + (N + 1) + (N + 1) + (N + 1) * xs.length) k := by
  have h : ∀ k, ((List.range k).flatMap fun j => (words ys j).flatMap fun t => thIn N xs j t).length = cS ys.length (1 + (N + 1) + (N + 1) + (N + 1) * xs.length) k := fun k => by
    induction k with
    | zero => rfl
    | succ k ih =>
      rw [List.range_succ, List.flatMap_append, List.length_append, ih, List.flatMap_cons, List.flatMap_nil, List.append_nil, flat_len fun t _ => thIn_len N xs k t, words_len]
      rfl
  unfold thAll
  rw [List.length_append, List.length_map, words_len, h]
abbrev OI := Int × List D × List D
def outs (n : Nat) : Option D → OI → List OI
  | some t, o => [(o.1 + 1, o.2.1.set o.1.toNat t, o.2.2)]
  | none, o => (o.1 - 1, o.2.1, o.2.2 ++ [gx o.2.1 (o.1 - 1)]) :: (o.1, o.2.1, o.2.2 ++ [gx o.2.1 (o.1 - 1)]) :: (o.1, o.2.1, o.2.2 ++ [.none]) :: (rI n).map fun f => (f, o.2.1, o.2.2 ++ [.none])
def idle (deeds : List (Option D)) : Nat → List OI
  | 0 => [(0, List.replicate 8 .none, [])]
  | n + 1 => match deeds[n]? with
    | some x => (idle deeds n).flatMap (outs n x)
    | none => idle deeds n
def ins (n : Nat) : Option D → OI → List (Int × List D × Mv)
  | some t, o => [(o.1, o.2.1, ⟨n, 0, 0, .none, o.2.2⟩), (o.1, o.2.1.set o.1.toNat t, ⟨n, 1, 0, .none, o.2.2⟩)]
  | none, o => (o.1, o.2.1, ⟨n, 0, 0, .none, o.2.2⟩) :: (o.1 - 1, o.2.1, ⟨n, 1, 0, .none, o.2.2⟩) :: (o.1 - 1, o.2.1, ⟨n, 3, o.1 - 1, gx o.2.1 (o.1 - 1), o.2.2⟩) :: (o.1 - 1, o.2.1, ⟨n, 4, o.1 - 1, gx o.2.1 (o.1 - 1), o.2.2⟩) ::
      (o.1 - 1, o.2.1, ⟨n, 4, o.1 - 1, .none, o.2.2⟩) :: (rI n).map fun f => (o.1 - 1, o.2.1, ⟨n, 2, f, .none, o.2.2⟩)
def ownAll (deeds : List (Option D)) : List (Int × List D × Mv) := ((idle deeds deeds.length).map fun o => (o.1, o.2.1, ⟨deeds.length, 0, 0, .none, o.2.2⟩)) ++
  (List.range deeds.length).flatMap fun n => match deeds[n]? with
    | some x => (idle deeds n).flatMap (ins n x)
    | none => []
def cI (p : List Bool) : Nat → Nat
  | 0 => 1
  | n + 1 => cI p n * (match p[n]? with | some false => n + 4 | _ => 1)
theorem idle_len (deeds : List (Option D)) : ∀ n, (idle deeds n).length = cI (deeds.map Option.isSome) n
  | 0 => rfl
  | n + 1 => by
    unfold idle cI
    rw [List.getElem?_map, ← idle_len deeds n]
    cases deeds[n]? with
    | none => simp
    | some x => cases x with
      | none => simp only [Option.map_some, Option.isSome_none]; exact flat_len fun o _ => by simp [outs, rI_len]
      | some t => simp only [Option.map_some, Option.isSome_some]; exact flat_len fun o _ => by simp [outs]
def cO (p : List Bool) : Nat → Nat
  | 0 => 0
  | n + 1 => cO p n + (match p[n]? with | some false => cI p n * (n + 6) | some true => cI p n * 2 | none => 0)
theorem ownAll_len (deeds : List (Option D)) : (ownAll deeds).length = cI (deeds.map Option.isSome) deeds.length + cO (deeds.map Option.isSome) deeds.length := by
  have h : ∀ k, ((List.range k).flatMap fun n => match deeds[n]? with | some x => (idle deeds n).flatMap (ins n x) | none => []).length = cO (deeds.map Option.isSome) k := fun k => by
    induction k with
    | zero => rfl
    | succ k ih =>
      rw [List.range_succ, List.flatMap_append, List.length_append, ih, List.flatMap_cons, List.flatMap_nil, List.append_nil]
      have e : cO (deeds.map Option.isSome) (k + 1) = cO (deeds.map Option.isSome) k + (match (deeds.map Option.isSome)[k]? with | some false => cI (deeds.map Option.isSome) k * (k + 6) | some true => cI (deeds.map Option.isSome) k * 2 | none => 0) := rfl
      rw [e, List.getElem?_map]
      cases deeds[k]? with
      | none => rfl
      | some x => cases x with
        | none => simp only [Option.map_some, Option.isSome_none]; rw [← idle_len, flat_len (c := k + 6) fun o _ => by simp [ins, rI_len]]
        | some t => simp only [Option.map_some, Option.isSome_some]; rw [← idle_len, flat_len (c := 2) fun o _ => by simp [ins]]
  unfold ownAll
  rw [List.length_append, List.length_map, idle_len, h]
def restAll (N : Nat) (xs ys : List D) : List Int → List (List Mv)
  | [] => [[]]
  | k :: ks => (thAll N xs ys k.toNat).flatMap fun m => (restAll N xs ys ks).map (m :: ·)
def allS (deeds : List (Option D)) (tries : List Int) : List Sg := (ownAll deeds).flatMap fun o => (rI deeds.length).flatMap fun far => (restAll deeds.length (Xs deeds) (Ys deeds) tries).map fun rest => ⟨o.1, far, o.2.1, o.2.2 :: rest⟩
def cT (N l k : Nat) : Nat := (l + 2) ^ k + cS (l + 2) (1 + (N + 1) + (N + 1) + (N + 1) * (l + 1)) k
def cL : List Bool → Nat
  | [] => 0
  | true :: p => cL p + 1
  | false :: p => cL p
theorem laid_cL : ∀ deeds : List (Option D), (laid deeds).length = cL (deeds.map Option.isSome)
  | [] => rfl
  | some t :: ds => by simp [laid, cL, ← laid_cL ds]
  | none :: ds => by simp [laid, cL, ← laid_cL ds]
theorem num_few : ∀ p : List Bool, p.length ≤ 4 → ∀ k1 k2 : Fin 4, k1.1 + k2.1 ≤ 3 → (cI p p.length + cO p p.length) * ((p.length + 1) * (cT p.length (cL p) k1 * cT p.length (cL p) k2)) < 16000000
  | [], _ => by decide +kernel
  | [a], _ => by revert a; decide +kernel
  | [a, b], _ => by revert a b; decide +kernel
  | [a, b, c], _ => by revert a b c; decide +kernel
  | [a, b, c, d], _ => by revert a b c d; decide +kernel
  | _ :: _ :: _ :: _ :: _ :: _, h => by simp at h
theorem allS_len {deeds : List (Option D)} {tries : List Int} (hd : deeds.length ≤ 4) (ht : tries.length ≤ 2) (hk : ∀ k ∈ tries, 0 ≤ k) (hs : tries.sum ≤ 3) : (allS deeds tries).length < 16000000 := by
  have e1 : (allS deeds tries).length = (ownAll deeds).length * ((deeds.length + 1) * (restAll deeds.length (Xs deeds) (Ys deeds) tries).length) := by
    unfold allS
    exact flat_len fun o _ => by rw [← rI_len deeds.length]; exact flat_len fun f _ => by simp
  have eT : ∀ k, (thAll deeds.length (Xs deeds) (Ys deeds) k).length = cT (deeds.map Option.isSome).length (cL (deeds.map Option.isSome)) k := fun k => by
    rw [thAll_len]
    simp only [Ys, Xs, List.length_cons, List.length_map, cT, laid_cL]
  obtain ⟨k1, k2, h12, e2⟩ : ∃ k1 k2 : Fin 4, k1.1 + k2.1 ≤ 3 ∧ (restAll deeds.length (Xs deeds) (Ys deeds) tries).length = cT (deeds.map Option.isSome).length (cL (deeds.map Option.isSome)) k1 * cT (deeds.map Option.isSome).length (cL (deeds.map Option.isSome)) k2 := by
    have c0 : ∀ N l, cT N l 0 = 1 := fun _ _ => rfl
    match tries, ht with
    | [], _ => exact ⟨0, 0, by decide, by simp [restAll, c0]⟩
    | [a], _ =>
      have a0 := hk a List.mem_cons_self
      simp at hs
      refine ⟨⟨a.toNat, by omega⟩, 0, by simp; omega, ?_⟩
      unfold restAll
      rw [flat_len (c := 1) fun _ _ => by simp [restAll], eT]
      simp [c0]
    | [a, b], _ =>
      have a0 := hk a List.mem_cons_self
      have b0 := hk b (List.mem_cons_of_mem _ List.mem_cons_self)
      simp at hs
      refine ⟨⟨a.toNat, by omega⟩, ⟨b.toNat, by omega⟩, by simp; omega, ?_⟩
      unfold restAll
      rw [flat_len (c := (thAll deeds.length (Xs deeds) (Ys deeds) b.toNat).length) fun _ _ => by
        rw [List.length_map]; unfold restAll; rw [flat_len (c := 1) fun _ _ => by simp [restAll]]; omega, eT, eT]
    | _ :: _ :: _ :: _, h => simp at h
  have := num_few (deeds.map Option.isSome) (by simpa using hd) k1 k2 h12
  rw [e1, ownAll_len, e2]
  simpa using this
end K51



namespace K51
open PySem PySem.Spec L2 PyProof.Rows Bv
variable {deeds : List (Option D)} {tries : List Int} {ru : Ru}
/-- the owner's own, one of few -/
def OB (deeds : List (Option D)) (near : Int) (bx : List D) (m : Mv) : Prop := ∃ n : Nat, m.n = n ∧ n ≤ deeds.length ∧ ∃ o ∈ idle deeds n, (near, bx, m) = (o.1, o.2.1, ⟨n, 0, 0, .none, o.2.2⟩) ∨ ∃ x, deeds[n]? = some x ∧ (near, bx, m) ∈ ins n x o
/-- a thief's own, one of few -/
def TB (N : Nat) (xs ys : List D) (k : Int) (m : Mv) : Prop := ∃ n : Nat, m.n = n ∧ (n : Int) ≤ k ∧ m.told ∈ words ys n ∧ ((m.ph = 0 ∧ m.f = 0 ∧ m.x = .none) ∨ ((n : Int) < k ∧ 0 ≤ m.f ∧ m.f ≤ N ∧ ((m.ph = 1 ∧ m.x = .none) ∨ (m.ph = 2 ∧ m.x = .none) ∨ (m.ph = 3 ∧ m.x ∈ xs))))
theorem tb_mem {N : Nat} {xs ys : List D} {k : Int} {m : Mv} (h : TB N xs ys k m) : m ∈ thAll N xs ys k.toNat := by
  obtain ⟨n, ph, f, x, told⟩ := m
  obtain ⟨j, rfl, h1, h2, h3⟩ := h
  simp only at h2 h3
  unfold thAll
  by_cases q : (j : Int) = k
  · rcases h3 with ⟨rfl, rfl, rfl⟩ | ⟨h, _⟩
    · refine List.mem_append.mpr (.inl (List.mem_map.mpr ⟨told, ?_, ?_⟩))
      · rw [← q, Int.toNat_natCast]; exact h2
      · rw [← q, Int.toNat_natCast]
    · omega
  · refine List.mem_append.mpr (.inr (List.mem_flatMap.mpr ⟨j, List.mem_range.mpr (by omega), List.mem_flatMap.mpr ⟨told, h2, ?_⟩⟩))
    unfold thIn
    rcases h3 with ⟨rfl, rfl, rfl⟩ | ⟨_, h4, h5, ⟨rfl, rfl⟩ | ⟨rfl, rfl⟩ | ⟨rfl, hx⟩⟩
    · exact List.mem_cons_self
    · exact List.mem_cons_of_mem _ (List.mem_append.mpr (.inl (List.mem_map.mpr ⟨f, mem_rI h4 h5, rfl⟩)))
    · exact List.mem_cons_of_mem _ (List.mem_append.mpr (.inr (List.mem_append.mpr (.inl (List.mem_map.mpr ⟨f, mem_rI h4 h5, rfl⟩)))))
    · exact List.mem_cons_of_mem _ (List.mem_append.mpr (.inr (List.mem_append.mpr (.inr (List.mem_flatMap.mpr ⟨f, mem_rI h4 h5, List.mem_map.mpr ⟨x, hx, rfl⟩⟩)))))
theorem ob_mem {near : Int} {bx : List D} {m : Mv} (h : OB deeds near bx m) (h2 : m.n = deeds.length → m.ph = 0) : (near, bx, m) ∈ ownAll deeds := by
  obtain ⟨n, e, h1, o, ho, h3⟩ := h
  unfold ownAll
  by_cases q : n = deeds.length
  · subst q
    refine List.mem_append.mpr (.inl (List.mem_map.mpr ⟨o, ho, ?_⟩))
    rcases h3 with h3 | ⟨x, hx, _⟩
    · exact h3.symm
    · rw [List.getElem?_eq_none (Nat.le_refl _)] at hx; cases hx
  · have hn : n < deeds.length := by omega
    refine List.mem_append.mpr (.inr (List.mem_flatMap.mpr ⟨n, List.mem_range.mpr hn, ?_⟩))
    have ex : deeds[n]? = some deeds[n] := List.getElem?_eq_getElem hn
    rw [ex]
    refine List.mem_flatMap.mpr ⟨o, ho, ?_⟩
    rcases h3 with h3 | ⟨x, hx, h3⟩
    · rw [h3]
      cases deeds[n] <;> simp [ins]
    · rw [ex] at hx
      cases hx
      exact h3
theorem ob_take {near far : Int} {bx : List D} {m : Mv} (h : OB deeds near bx m) (hd : deeds[m.n.toNat]? = some none) (f0 : 0 ≤ far) (f1 : far ≤ m.n) : OB deeds (stepO ru near far bx m).1 bx (stepO ru near far bx m).2.2 := by
  obtain ⟨n, e, h1, o, ho, h3⟩ := h
  rw [e, Int.toNat_natCast] at hd
  rw [e] at f1
  have hl : n < deeds.length := (List.getElem?_eq_some_iff.mp hd).1
  have nxt : ∀ o', o' ∈ outs n none o → o' ∈ idle deeds (n + 1) := fun o' h => by
    unfold idle
    rw [hd]
    exact List.mem_flatMap.mpr ⟨o, ho, h⟩
  have stay : ∀ near' bx' m', (near', bx', m') ∈ ins n none o → m'.n = n → OB deeds near' bx' m' := fun near' bx' m' h e' => ⟨n, e', h1, o, ho, .inr ⟨none, hd, h⟩⟩
  have go : ∀ o', o' ∈ outs n none o → ∀ near' bx' m', (near', bx', m') = (o'.1, o'.2.1, (⟨(n : Int) + 1, 0, 0, .none, o'.2.2⟩ : Mv)) → OB deeds near' bx' m' := fun o' h near' bx' m' e' => by
    cases e'
    exact ⟨n + 1, by simp, hl, o', nxt o' h, .inl (by simp)⟩
  obtain ⟨on, obx, ot⟩ := o
  have h3 : (near, bx, m) ∈ ins n none (on, obx, ot) := by
    rcases h3 with h3 | ⟨x, hx, h3⟩
    · rw [h3]; simp [ins]
    · rw [hd] at hx; cases hx; exact h3
  simp only [ins, List.mem_cons, List.mem_map] at h3
  rcases h3 with h3 | h3 | h3 | h3 | h3 | ⟨f, hf, h3⟩
  · cases h3
    rw [stepO0]
    exact stay _ _ _ (by simp [ins]) rfl
  · cases h3
    rw [stepO1]
    exact stay _ _ _ (by simp only [ins, List.mem_cons, List.mem_map]; exact .inr (.inr (.inr (.inr (.inr ⟨far, mem_rI f0 f1, rfl⟩))))) rfl
  · cases h3
    rw [stepO3]
    split
    · exact stay _ _ _ (by simp [ins]) rfl
    · exact stay _ _ _ (by simp [ins]) rfl
  · cases h3
    rw [stepO4]
    refine go (on, bx, ot ++ [gx bx (on - 1)]) (by simp [outs]) _ _ _ ?_
    simp only [show on - 1 + 1 = on by omega]
  · cases h3
    rw [stepO4]
    refine go (on, bx, ot ++ [.none]) (by simp [outs]) _ _ _ ?_
    simp only [show on - 1 + 1 = on by omega]
  · cases h3
    rw [stepO2]
    split
    · exact go (f, bx, ot ++ [.none]) (by simp only [outs, List.mem_cons, List.mem_map]; exact .inr (.inr (.inr ⟨f, hf, rfl⟩))) _ _ _ rfl
    · split
      · exact go (on - 1, bx, ot ++ [gx bx (on - 1)]) (by simp [outs]) _ _ _ rfl
      · have : f = on - 1 := by omega
        subst this
        cases hb : ru.ba <;> exact stay _ _ _ (by simp [ins]) rfl
theorem ob_lay {near : Int} {bx : List D} {m : Mv} {t : D} (h : OB deeds near bx m) (hd : deeds[m.n.toNat]? = some (some t)) : OB deeds (stepL near bx m t).1 (stepL near bx m t).2.1 (stepL near bx m t).2.2 := by
  obtain ⟨n, e, h1, o, ho, h3⟩ := h
  rw [e, Int.toNat_natCast] at hd
  have hl : n < deeds.length := (List.getElem?_eq_some_iff.mp hd).1
  have h3 : (near, bx, m) ∈ ins n (some t) o := by
    rcases h3 with h3 | ⟨x, hx, h3⟩
    · rw [h3]; simp [ins]
    · rw [hd] at hx; cases hx; exact h3
  obtain ⟨on, obx, ot⟩ := o
  simp only [ins, List.mem_cons, List.not_mem_nil, or_false] at h3
  rcases h3 with h3 | h3
  · cases h3
    rw [stepL0]
    exact ⟨n, rfl, h1, (near, bx, ot), ho, .inr ⟨some t, hd, by simp [ins]⟩⟩
  · cases h3
    rw [stepL1]
    refine ⟨n + 1, by simp, hl, (near + 1, obx.set near.toNat t, ot), ?_, .inl (by simp)⟩
    unfold idle
    rw [hd]
    exact List.mem_flatMap.mpr ⟨(near, obx, ot), ho, by simp [outs]⟩
theorem tb_step {N : Nat} {xs ys : List D} {k near far : Int} {bx : List D} {m : Mv} (h : TB N xs ys k m) (hk : m.n ≠ k) (f0 : 0 ≤ far) (f1 : far ≤ N) (hb : ∀ i, gx bx i ∈ xs) (hn : .none ∈ xs) (hy : ∀ x ∈ xs, x ∈ ys) (hl : .str "lost" ∈ ys) : TB N xs ys k (stepT ru near far bx m).2 := by
  obtain ⟨n, ph, f, x, told⟩ := m
  obtain ⟨j, rfl, h1, h2, h3⟩ := h
  simp only at h2 h3 hk
  have hlt : (j : Int) < k := by omega
  have nx : ∀ y ∈ ys, TB N xs ys k ⟨(j : Int) + 1, 0, 0, .none, told ++ [y]⟩ := fun y hy => ⟨j + 1, by simp, by omega, words_snoc h2 hy, .inl ⟨rfl, rfl, rfl⟩⟩
  rcases h3 with ⟨rfl, rfl, rfl⟩ | ⟨_, h4, h5, ⟨rfl, rfl⟩ | ⟨rfl, rfl⟩ | ⟨rfl, hx⟩⟩
  · rw [stepT0]
    exact ⟨j, rfl, h1, h2, .inr ⟨hlt, f0, f1, .inl ⟨rfl, rfl⟩⟩⟩
  · rw [stepT1]
    simp only
    split
    · exact nx _ (hy _ hn)
    · exact ⟨j, rfl, h1, h2, .inr ⟨hlt, h4, h5, .inr (.inl ⟨rfl, rfl⟩)⟩⟩
  · rw [stepT2]
    exact ⟨j, rfl, h1, h2, .inr ⟨hlt, h4, h5, .inr (.inr ⟨rfl, hb f⟩)⟩⟩
  · rw [stepT3]
    split
    · exact nx _ (hy _ hx)
    · exact nx _ hl
/-- a state is one of few -/
structure Bd (deeds : List (Option D)) (tries : List Int) (s : Sg) (m0 : Mv) (rest : List Mv) : Prop where
  ob : OB deeds s.near s.bx m0
  bx : ∀ d ∈ s.bx, d ∈ Xs deeds
  tb : ∀ (i : Nat) (m : Mv) (k : Int), rest[i]? = some m → tries[i]? = some k → TB deeds.length (Xs deeds) (Ys deeds) k m
theorem bd_init (P : Pl deeds tries) : Bd deeds tries (init tries) ⟨0, 0, 0, .none, []⟩ (List.replicate tries.length ⟨0, 0, 0, .none, []⟩) where
  ob := ⟨0, rfl, Nat.zero_le _, _, List.mem_singleton.mpr rfl, .inl rfl⟩
  bx := fun d hd => by rw [List.eq_of_mem_replicate hd]; exact List.mem_cons_self
  tb := fun i m k hm hk => by
    have := List.eq_of_mem_replicate (List.mem_of_getElem? hm)
    subst this
    exact ⟨0, rfl, (P.tk k (List.mem_of_getElem? hk)).1, List.mem_singleton.mpr rfl, .inl ⟨rfl, rfl, rfl⟩⟩
theorem bd_step {s s' : Sg} {m0 : Mv} {rest : List Mv} {w : Nat} (I : Inv deeds tries s m0 rest) (B : Bd deeds tries s m0 rest) (e : step ru deeds tries s w = some s') : ∀ m0' rest', s'.mv = m0' :: rest' → Bd deeds tries s' m0' rest' := by
  have mv := I.mv
  have own := I.own
  obtain ⟨near, far, bx, ms⟩ := s
  simp only at mv own
  subst mv
  intro m0' rest' em
  have hgx : ∀ i, gx bx i ∈ Xs deeds := fun i => by
    unfold gx
    cases q : bx[i.toNat]? with
    | none => exact List.mem_cons_self
    | some d => exact B.bx d (List.mem_of_getElem? q)
  cases w with
  | zero =>
    unfold step at e
    simp only at e
    cases q : deeds[m0.n.toNat]? with
    | none => rw [q] at e; cases e
    | some x =>
      rw [q] at e
      cases x with
      | none =>
        cases e
        cases em
        exact ⟨ob_take B.ob q own.far0 own.far1, B.bx, B.tb⟩
      | some t =>
        cases e
        cases em
        refine ⟨ob_lay B.ob q, fun d hd => ?_, B.tb⟩
        have ht : t ∈ Xs deeds := List.mem_cons_of_mem _ (List.mem_filterMap.mpr ⟨some t, List.mem_of_getElem? q, rfl⟩)
        unfold stepL at hd
        split at hd
        · rcases List.mem_or_eq_of_mem_set hd with hd | rfl
          · exact B.bx d hd
          · exact ht
        · exact B.bx d hd
  | succ i =>
    unfold step at e
    simp only at e
    cases q1 : rest[i]? with
    | none => rw [q1] at e; cases e
    | some m =>
      cases q2 : tries[i]? with
      | none => rw [q1, q2] at e; cases e
      | some k =>
        rw [q1, q2] at e
        simp only at e
        split at e
        · cases e
        · rename_i hk
          cases e
          cases em
          refine ⟨B.ob, B.bx, fun j mm kk hm hkk => ?_⟩
          by_cases z : i = j
          · subst z
            have hl := (List.getElem?_eq_some_iff.mp q1).1
            rw [List.getElem?_set_self hl] at hm
            cases hm
            rw [q2] at hkk
            cases hkk
            exact tb_step (B.tb i m k q1 q2) hk own.far0 (Int.le_trans own.far1 own.n1) hgx List.mem_cons_self (fun x hx => List.mem_cons_of_mem _ hx) List.mem_cons_self
          · rw [List.getElem?_set_ne z] at hm
            exact B.tb j mm kk hm hkk
theorem rest_mem {N : Nat} {xs ys : List D} : ∀ {tries : List Int} {rest : List Mv}, rest.length = tries.length → (∀ (i : Nat) (m : Mv) (k : Int), rest[i]? = some m → tries[i]? = some k → TB N xs ys k m) → rest ∈ restAll N xs ys tries
  | [], [], _, _ => List.mem_singleton.mpr rfl
  | k :: ks, m :: ms, hl, h => List.mem_flatMap.mpr ⟨m, tb_mem (h 0 m k rfl rfl), List.mem_map.mpr ⟨ms, rest_mem (by simpa using hl) fun i m k a b => h (i + 1) m k (by simpa using a) (by simpa using b), rfl⟩⟩
  | [], _ :: _, h, _ => by simp at h
  | _ :: _, [], h, _ => by simp at h
theorem mem_allS {s : Sg} {m0 : Mv} {rest : List Mv} (I : Inv deeds tries s m0 rest) (B : Bd deeds tries s m0 rest) : s ∈ allS deeds tries := by
  have mv := I.mv
  have own := I.own
  have hp : m0.n = deeds.length → m0.ph = 0 := fun z => by
    have hn : deeds[m0.n.toNat]? = none := List.getElem?_eq_none (by omega)
    rcases own.ph with ⟨a, _⟩ | ⟨_, ⟨t, q⟩, _⟩ | ⟨q, _⟩
    · exact a
    · rw [hn] at q; cases q
    · rw [hn] at q; cases q
  obtain ⟨near, far, bx, ms⟩ := s
  simp only at mv own
  subst mv
  exact List.mem_flatMap.mpr ⟨_, ob_mem B.ob hp, List.mem_flatMap.mpr ⟨far, mem_rI own.far0 (Int.le_trans own.far1 own.n1), List.mem_map.mpr ⟨rest, rest_mem I.rl B.tb, rfl⟩⟩⟩
end K51



namespace K51
open PySem PySem.Spec L2 PyProof.Rows Bv
variable {deeds : List (Option D)} {tries : List Int} {ru : Ru}
/-! ### a state, as a key -/
mutual
def nob : D → Bool
  | .bool _ => false
  | .tuple ds => nobA ds
  | _ => true
def nobA : List D → Bool
  | [] => true
  | d :: ds => nob d && nobA ds
end
mutual
theorem nkey_inj : ∀ {d e : D} {k : NestedKey}, nob d = true → nob e = true → nkey d = some k → nkey e = some k → d = e
  | .none, e, k, h1, h2, h3, h4 => by
    cases h3
    cases e with
    | none => rfl
    | tuple ds => simp [nkey] at h4
    | _ => cases h4
  | .int i, e, k, h1, h2, h3, h4 => by
    cases h3
    cases e with
    | int j => cases h4; rfl
    | bool b => cases h2
    | tuple ds => simp [nkey] at h4
    | _ => cases h4
  | .str x, e, k, h1, h2, h3, h4 => by
    cases h3
    cases e with
    | str y => cases h4; rfl
    | tuple ds => simp [nkey] at h4
    | _ => cases h4
  | .tuple ds, e, k, h1, h2, h3, h4 => by
    have h3 : (nkeys ds).map NestedKey.tup = some k := h3
    obtain ⟨ks, e1, rfl⟩ := Option.map_eq_some_iff.mp h3
    cases e with
    | tuple es =>
      have h4 : (nkeys es).map NestedKey.tup = some (.tup ks) := h4
      obtain ⟨ks', e2, e3⟩ := Option.map_eq_some_iff.mp h4
      cases e3
      rw [nkeys_inj (ds := ds) (es := es) h1 h2 e1 e2]
    | _ => cases h4
  | .bool b, e, k, h1, h2, h3, h4 => by cases h1
  | .list ds, e, k, h1, h2, h3, h4 => by cases h3
  | .dict ds, e, k, h1, h2, h3, h4 => by cases h3
theorem nkeys_inj : ∀ {ds es : List D} {ks : List NestedKey}, nobA ds = true → nobA es = true → nkeys ds = some ks → nkeys es = some ks → ds = es
  | [], es, ks, h1, h2, h3, h4 => by
    cases h3
    cases es with
    | nil => rfl
    | cons e es => simp [nkeys, Option.bind_eq_some_iff] at h4
  | d :: ds, es, ks, h1, h2, h3, h4 => by
    have h3 : ((nkey d).bind fun k => (nkeys ds).map (k :: ·)) = some ks := h3
    obtain ⟨k, e1, e2⟩ := Option.bind_eq_some_iff.mp h3
    obtain ⟨ks', e3, rfl⟩ := Option.map_eq_some_iff.mp e2
    cases es with
    | nil => simp [nkeys] at h4
    | cons e es =>
      have h4 : ((nkey e).bind fun k => (nkeys es).map (k :: ·)) = some (k :: ks') := h4
      obtain ⟨k', f1, f2⟩ := Option.bind_eq_some_iff.mp h4
      obtain ⟨ks2, f3, f4⟩ := Option.map_eq_some_iff.mp f2
      cases f4
      simp only [nobA, Bool.and_eq_true] at h1 h2
      rw [nkey_inj h1.1 h2.1 e1 f1, nkeys_inj h1.2 h2.2 e3 f3]
end
/-- tuples of tuples of .., n deep, with nothing that may change within -/
structure Fl (n : Nat) (d : D) : Prop where
  key : ∃ k, nkey d = some k ∧ k.depth ≤ n
  nb : nob d = true
  im : imm d = true
  nd : nodict d = true
  cl : PyData.canLay0 d = true
  dp : d.depth ≤ n
theorem Fl.up {n m : Nat} {d : D} (h : Fl n d) (e : n ≤ m) : Fl m d := ⟨let ⟨k, a, b⟩ := h.key; ⟨k, a, Nat.le_trans b e⟩, h.nb, h.im, h.nd, h.cl, Nat.le_trans h.dp e⟩
theorem fl_int (i : Int) : Fl 0 (.int i) := ⟨⟨_, rfl, Nat.le_refl _⟩, rfl, rfl, rfl, by simp [PyData.canLay0], by simp [PyData.depth]⟩
theorem fl_sm {d : D} (h : Sm d) : Fl 0 d := by
  rcases h with rfl | rfl | ⟨i, rfl, _⟩
  · exact ⟨⟨_, rfl, Nat.le_refl _⟩, rfl, rfl, rfl, by simp [PyData.canLay0], by simp [PyData.depth]⟩
  · exact ⟨⟨_, rfl, Nat.le_refl _⟩, rfl, rfl, rfl, by decide +kernel, by simp [PyData.depth]⟩
  · exact fl_int i
theorem fl_tup {n : Nat} {ds : List D} (h : ∀ d ∈ ds, Fl n d) : Fl (n + 1) (.tuple ds) := by
  have H : ∀ ds : List D, (∀ d ∈ ds, Fl n d) → (∃ ks, nkeys ds = some ks ∧ NestedKey.depthAll ks ≤ n) ∧ nobA ds = true ∧ immA ds = true ∧ nodictA ds = true ∧ PyData.canLayAll0 ds = true ∧ PyData.depthAll ds ≤ n := fun ds => by
    induction ds with
    | nil => intro _; exact ⟨⟨[], rfl, Nat.zero_le _⟩, rfl, rfl, rfl, rfl, by simp [PyData.depthAll]⟩
    | cons d ds ih =>
      intro h
      obtain ⟨⟨ks, a1, a2⟩, a3, a4, a5, a6, a7⟩ := ih fun x hx => h x (List.mem_cons_of_mem _ hx)
      obtain ⟨⟨k, b1, b2⟩, b3, b4, b5, b6, b7⟩ := h d List.mem_cons_self
      refine ⟨⟨k :: ks, by simp [nkeys, b1, a1], by simp only [NestedKey.depthAll]; omega⟩, by simp [nobA, a3, b3], by simp [a4, b4], by simp [nodictA, a5, b5], by simp [PyData.canLayAll0, a6, b6], by simp only [PyData.depthAll]; omega⟩
  obtain ⟨⟨ks, a1, a2⟩, a3, a4, a5, a6, a7⟩ := H ds h
  exact ⟨⟨.tup ks, by simp [nkey, a1], by simp only [NestedKey.depth]; omega⟩, a3, a4, a5, a6, by simp only [PyData.depth]; omega⟩
theorem fl_mv {m : Mv} (h1 : Sm m.x) (h2 : ∀ d ∈ m.told, Sm d) : Fl 2 m.d := by
  refine fl_tup fun d hd => ?_
  simp only [List.mem_cons, List.not_mem_nil, or_false] at hd
  rcases hd with rfl | rfl | rfl | rfl | rfl
  · exact (fl_int _).up (by omega)
  · exact (fl_int _).up (by omega)
  · exact (fl_int _).up (by omega)
  · exact (fl_sm h1).up (by omega)
  · exact fl_tup fun d hd => fl_sm (h2 d hd)
theorem fl_st {s : Sg} {m0 : Mv} {rest : List Mv} (I : Inv deeds tries s m0 rest) (N : Nat) : Fl 4 (s.d N) := by
  have hm : ∀ m ∈ s.mv, Sm m.x ∧ ∀ d ∈ m.told, Sm d := fun m hm => by
    rw [I.mv] at hm
    rcases List.mem_cons.mp hm with rfl | hm
    · exact ⟨I.own.sx, I.own.sm⟩
    · obtain ⟨i, hi, e⟩ := List.getElem_of_mem hm
      have hk : i < tries.length := by rw [← I.rl]; exact hi
      have T := I.th i m tries[i] (by rw [List.getElem?_eq_getElem hi, e]) (List.getElem?_eq_getElem hk)
      exact ⟨T.sx, T.sm⟩
  refine fl_tup fun d hd => ?_
  simp only [List.mem_cons, List.not_mem_nil, or_false] at hd
  rcases hd with rfl | rfl | rfl | rfl
  · exact (fl_int _).up (by omega)
  · exact (fl_int _).up (by omega)
  · exact (fl_tup (n := 0) fun d hd => fl_sm (I.bs d (List.mem_of_mem_take hd))).up (by omega)
  · refine fl_tup fun d hd => ?_
    obtain ⟨m, hm', rfl⟩ := List.mem_map.mp hd
    exact fl_mv (hm m hm').1 (hm m hm').2
theorem fl_key {d : D} (h : Fl 4 d) : ∃ k, dkey d = some k ∧ nkey d = some k := by
  obtain ⟨k, a, b⟩ := h.key
  exact ⟨k, by simp [dkey, a, show k.depth ≤ 8 by omega], a⟩
/-! the small deeds that lead on -/
def RS (ru : Ru) (deeds : List (Option D)) (tries : List Int) (s : Sg) : Prop := ∃ m0 rest, Inv deeds tries s m0 rest ∧ Bd deeds tries s m0 rest ∧ ∃ ns : List Nat, (∀ n ∈ ns, n ≤ tries.length) ∧ exec ru deeds tries ns (init tries) = some s
theorem RS.good {s : Sg} (h : RS ru deeds tries s) : Good deeds tries s := let ⟨m0, rest, a, _⟩ := h; ⟨m0, rest, a⟩
theorem rs_init (P : Pl deeds tries) : RS ru deeds tries (init tries) := ⟨_, _, init_inv P, bd_init P, [], by simp, rfl⟩
theorem rs_step {s s' : Sg} {w : Nat} (P : Pl deeds tries) (G : RS ru deeds tries s) (hw : w ≤ tries.length) (e : step ru deeds tries s w = some s') : RS ru deeds tries s' := by
  obtain ⟨m0, rest, a, b, ns, n1, n2⟩ := G
  obtain ⟨m0', rest', a'⟩ := good_step P ⟨m0, rest, a⟩ hw e
  refine ⟨m0', rest', a', bd_step a b e m0' rest' a'.mv, ns ++ [w], fun n hn => ?_, by rw [exec_snoc, n2]; exact e⟩
  rcases List.mem_append.mp hn with hn | hn
  · exact n1 n hn
  · rw [List.mem_singleton.mp hn]; exact hw
def moveTo (deeds : List (Option D)) (tries : List Int) (rules d : D) (w : Nat) : D := match f_moved [plD deeds tries, rules, d, .int w] with | .ok d' => d' | _ => .none
def succD (deeds : List (Option D)) (tries : List Int) (rules d : D) : List (Int × D) := ((List.range (tries.length + 1)).filter fun w => !(Bv.isN (moveTo deeds tries rules d w))).map fun (w : Nat) => ((w : Int), moveTo deeds tries rules d w)
def GD (ru : Ru) (deeds : List (Option D)) (tries : List Int) (d : D) : Prop := ∃ s, RS ru deeds tries s ∧ d = s.d deeds.length
theorem move_at {s : Sg} {w : Nat} (P : Pl deeds tries) (G : RS ru deeds tries s) (hw : w ≤ tries.length) :
    f_moved [plD deeds tries, ru.d, s.d deeds.length, .int w] = .ok (moveTo deeds tries ru.d (s.d deeds.length) w) ∧
      (match step ru deeds tries s w with | none => moveTo deeds tries ru.d (s.d deeds.length) w = .none | some s' => moveTo deeds tries ru.d (s.d deeds.length) w = s'.d deeds.length ∧ RS ru deeds tries s') := by
  obtain ⟨m0, rest, I, _⟩ := id G
  have := both (ru := ru) P I w hw (Nat.le_refl _) (show deeds.length ≤ 8 by have := P.dl; omega)
  cases e : step ru deeds tries s w with
  | none =>
    rw [e] at this
    simp only at this
    unfold moveTo
    rw [this.1]
    exact ⟨rfl, rfl⟩
  | some s' =>
    rw [e] at this
    unfold moveTo
    rw [this.1]
    exact ⟨rfl, rfl, rs_step P G hw e⟩
/-- where a small deed leads, by the state -/
theorem succ_iff {s : Sg} (P : Pl deeds tries) (G : RS ru deeds tries s) {p : Int × D} : p ∈ succD deeds tries ru.d (s.d deeds.length) ↔ ∃ (w : Nat) (s' : Sg), w ≤ tries.length ∧ step ru deeds tries s w = some s' ∧ p = ((w : Int), s'.d deeds.length) := by
  unfold succD
  constructor
  · intro h
    obtain ⟨w, h1, rfl⟩ := List.mem_map.mp h
    obtain ⟨h2, h3⟩ := List.mem_filter.mp h1
    have hw : w ≤ tries.length := by have := List.mem_range.mp h2; omega
    have := (move_at P G hw).2
    cases e : step ru deeds tries s w with
    | none => rw [e] at this; simp only at this; rw [this] at h3; cases h3
    | some s' => rw [e] at this; exact ⟨w, s', hw, e, by rw [this.1]⟩
  · rintro ⟨w, s', hw, e, rfl⟩
    have := (move_at P G hw).2
    rw [e] at this
    refine List.mem_map.mpr ⟨w, List.mem_filter.mpr ⟨List.mem_range.mpr (by omega), ?_⟩, by rw [this.1]⟩
    rw [this.1]
    rfl
theorem cmp_ok {vs : List Nat} {b : D → Vw → Option Vw} {ft : Vw → Rv Bool} {fe : Vw → Rv D} {src : Vw → Rv (List D)} {η : Vw} {xs : List D} {r : Rv (List D)} (h1 : src η = .ok xs) (h2 : xs.length ≤ 16000000) (h3 : compL b ft fe xs (wipeV vs η) = r) : cmp vs b ft fe src η = r := by
  rw [cmp_def, h1, Rv.bind_ok, if_pos h2, h3]
theorem next_at {s : Sg} (P : Pl deeds tries) (G : RS ru deeds tries s) :
    f_steps_from [plD deeds tries, ru.d, s.d deeds.length] = .ok (.list ((succD deeds tries ru.d (s.d deeds.length)).map fun p => .tuple [.int p.1, p.2])) := by
  obtain ⟨m0, rest, I, _⟩ := id G
  have htl := P.tl
  have hsD : ∀ (w : Nat), w ≤ tries.length → f_moved [plD deeds tries, ru.d, s.d deeds.length, .int w] = .ok (moveTo deeds tries ru.d (s.d deeds.length) w) := fun w hw => (move_at P G hw).1
  unfold f_steps_from succD
  generalize moveTo deeds tries ru.d (s.d deeds.length) = mt at hsD
  generalize s.d deeds.length = d at hsD ⊢
  have er : rng1 [.int (1 + (tries.length : Int))] = .ok ((List.range (tries.length + 1)).map fun (i : Nat) => (.int i : D)) := by
    rw [rng1_i, if_pos (rngOk_of (by omega) (by omega))]
    unfold rangeD
    rw [show (1 + (tries.length : Int) - 0).toNat = tries.length + 1 by omega]
    simp -implicitDefEqProofs
  have e1 : compL (vName 4) yes (tupD (acons (var 4) (acons (cal f_moved (acons (var 0) (acons (var 1) (acons (var 2) (acons (var 4) anil))))) anil))) ((List.range (tries.length + 1)).map fun (i : Nat) => (.int i : D)) [some (plD deeds tries), some ru.d, some d, none, none, none] = .ok ((List.range (tries.length + 1)).map fun w => .tuple [.int (w : Nat), mt w]) := by
    refine compL_map fun w hw => ⟨_, rfl, rfl, ?_⟩
    have := List.mem_range.mp hw
    simp -implicitDefEqProofs [hsD w (by omega)]
  have e2 : compL (vTup [4, 5]) (asB (bi2 dIsNot (var 5) (cst .none))) (tupD (acons (var 4) (acons (var 5) anil))) ((List.range (tries.length + 1)).map fun w => .tuple [.int (w : Nat), mt w]) [some (plD deeds tries), some ru.d, some d, some (.list ((List.range (tries.length + 1)).map fun w => .tuple [.int (w : Nat), mt w])), none, none] = .ok (((List.range (tries.length + 1)).filter fun w => !(Bv.isN (mt w))).map fun w => .tuple [.int (w : Nat), mt w]) := by
    refine compL_filter fun w hw => ⟨_, rfl, ?_, fun _ => ?_⟩
    · simp -implicitDefEqProofs [setAllV]
    · simp -implicitDefEqProofs [setAllV]
  have el : (dIx (plD deeds tries) (.int 1)).bind (fun a => dLen [a]) = .ok (.int tries.length) := by simp -implicitDefEqProofs [plD, dLen]
  have l1 : tries.length + 1 ≤ 16000000 := by omega
  have st1 : asgC 3 0 [] (cmp [4] (vName 4) yes (tupD (acons (var 4) (acons (cal f_moved (acons (var 0) (acons (var 1) (acons (var 2) (acons (var 4) anil))))) anil))) (srcR rng1 (acons (bi2 dAdd (cst (.int 1)) (cal dLen (acons (bi2 dIx (var 0) (cst (.int 1))) anil))) anil))) (entry 3 [plD deeds tries, ru.d, d]) =
      .nx [.fz (plD deeds tries), .fz ru.d, .fz d, .ow 1 (.list ((List.range (tries.length + 1)).map fun w => .tuple [.int (w : Nat), mt w])), .un, .un] := by
    have eA : (acons (bi2 dAdd (cst (.int 1)) (cal dLen (acons (bi2 dIx (var 0) (cst (.int 1))) anil))) anil) [some (plD deeds tries), some ru.d, some d, none, none, none] = .ok [.int (1 + (tries.length : Int))] := by
      simp -implicitDefEqProofs [plD, dLen]
    have eB : cmp [4] (vName 4) yes (tupD (acons (var 4) (acons (cal f_moved (acons (var 0) (acons (var 1) (acons (var 2) (acons (var 4) anil))))) anil))) (srcR rng1 (acons (bi2 dAdd (cst (.int 1)) (cal dLen (acons (bi2 dIx (var 0) (cst (.int 1))) anil))) anil)) [some (plD deeds tries), some ru.d, some d, none, none, none] = .ok ((List.range (tries.length + 1)).map fun w => .tuple [.int (w : Nat), mt w]) := by
      refine cmp_ok (xs := (List.range (tries.length + 1)).map fun (i : Nat) => (.int i : D)) ?_ ?_ e1
      · rw [srcR_def, eA, Rv.bind_ok, er]
      · rw [List.length_map, List.length_range]; exact l1
    have eE : vw [] (entry 3 [plD deeds tries, ru.d, d]) = [some (plD deeds tries), some ru.d, some d, none, none, none] := rfl
    rw [asgC_def, eE, eB]
    simp -implicitDefEqProofs
  unfold m_steps_from
  rw [sseq_nx st1]
  have eF : cmp [4, 5] (vTup [4, 5]) (asB (bi2 dIsNot (var 5) (cst .none))) (tupD (acons (var 4) (acons (var 5) anil))) (srcE (var 3)) [some (plD deeds tries), some ru.d, some d, some (.list ((List.range (tries.length + 1)).map fun w => .tuple [.int (w : Nat), mt w])), none, none] = .ok (((List.range (tries.length + 1)).filter fun w => !(Bv.isN (mt w))).map fun w => .tuple [.int (w : Nat), mt w]) := by
    rw [cmp_def, srcE_def]
    simp only [var_def, List.getElem?_cons_succ, List.getElem?_cons_zero, oget_some, Rv.bind_ok, items_l, List.length_map, List.length_range]
    rw [if_pos l1]
    exact e2
  have eG : vw [3] [.fz (plD deeds tries), .fz ru.d, .fz d, .ow 1 (.list ((List.range (tries.length + 1)).map fun w => .tuple [.int (w : Nat), mt w])), .un, .un] = [some (plD deeds tries), some ru.d, some d, some (.list ((List.range (tries.length + 1)).map fun w => .tuple [.int (w : Nat), mt w])), none, none] := rfl
  rw [ret_def, eG, lstD_def, eF]
  simp -implicitDefEqProofs [Function.comp_def]
end K51



namespace K51
open PySem PySem.Spec L2 PyProof.Rows Bv
variable {deeds : List (Option D)} {tries : List Int} {ru : Ru}
theorem dEq_any {a b : D} (ha : shp a = true) (hb : shp b = true) (hi : ∀ i j, ¬ (a = .int i ∧ b = .int j)) (hs : ∀ i j, ¬ (a = .str i ∧ b = .str j)) : dEq a b = .ok (.bool (PyData.eqv a b)) := by
  unfold dEq
  split
  · exact absurd ⟨rfl, rfl⟩ (hi _ _)
  · exact absurd ⟨rfl, rfl⟩ (hs _ _)
  · rw [if_pos ⟨ha, hb⟩]
theorem ne_lost (i : Int) : dNe (.int i) (.str "lost") = .ok (.bool true) := by
  have e := dEq_any (a := .int i) (b := .str "lost") (shp_int i) (by decide +kernel) (fun _ _ q => by cases q.2) (fun _ _ q => by cases q.1)
  unfold dNe
  rw [e]
  simp [PyData.eqv]
theorem laid_comp : ∀ deeds : List (Option D), (deeds.filter Option.isSome).map (fun x => x.getD .none) = laid deeds
  | [] => rfl
  | none :: r => by
    rw [List.filter_cons_of_neg (by simp), laid_comp r]
    rfl
  | some t :: r => by
    rw [List.filter_cons_of_pos (by simp), List.map_cons, laid_comp r]
    rfl
theorem imm_pl (P : Pl deeds tries) : imm (plD deeds tries) = true := by
  have h : immA (deeds.map dd) = true := immA_of fun d hd => by
    obtain ⟨x, hx, rfl⟩ := List.mem_map.mp hd
    cases x with
    | none => rfl
    | some t => simp [dd, (P.ds t hx).imm]
  simp [plD, h]
/-- a play of few deeds and tries -/
structure FewR (deeds : List (Option D)) (tries : List Int) : Prop where
  P : Pl deeds tries
  d4 : deeds.length ≤ 4
  t3 : tries.sum ≤ 3
theorem sr_at (F : FewR deeds tries) (ru : Ru) : Sr (plD deeds tries) ru.d (GD ru deeds tries) (succD deeds tries ru.d) ((init tries).d deeds.length) ((allS deeds tries).map (·.d deeds.length)) where
  first := first_at F.P
  g0 := ⟨_, rs_init F.P, rfl⟩
  next := fun d ⟨s, G, e⟩ => by rw [e]; exact next_at F.P G
  gs := fun d ⟨s, G, e⟩ p hp => by
    subst e
    obtain ⟨w, s', hw, e, rfl⟩ := (succ_iff F.P G).mp hp
    exact ⟨s', rs_step F.P G hw e, rfl⟩
  key := fun d ⟨s, ⟨_, _, I, _⟩, e⟩ => by
    subst e
    obtain ⟨k, h, _⟩ := fl_key (fl_st I _)
    exact ⟨k, h⟩
  inj := fun d e ⟨s, ⟨_, _, I, _⟩, hd⟩ ⟨s2, ⟨_, _, I2, _⟩, he⟩ h => by
    subst hd he
    obtain ⟨k, h1, h2⟩ := fl_key (fl_st I deeds.length)
    obtain ⟨k', h3, h4⟩ := fl_key (fl_st I2 deeds.length)
    rw [h1, h3] at h
    cases h
    exact nkey_inj (fl_st I _).nb (fl_st I2 _).nb h2 h4
  tup := fun d ⟨s, ⟨_, _, I, _⟩, e⟩ => by subst e; exact ⟨rfl, (fl_st I _).im⟩
  sh := fun d ⟨s, ⟨_, _, I, _⟩, e⟩ => by subst e; exact ⟨(fl_st I _).nd, (fl_st I _).cl, Nat.le_trans (fl_st I _).dp (by omega)⟩
  mem := fun d ⟨s, ⟨_, _, I, B, _⟩, e⟩ => List.mem_map.mpr ⟨s, mem_allS I B, e.symm⟩
  few := by rw [List.length_map]; exact allS_len F.d4 F.P.tl (fun k hk => (F.P.tk k hk).1) F.t3
  ip := imm_pl F.P
  ir := ru_imm ru
theorem need_at (F : FewR deeds tries) : f_need_size [plD deeds tries] = .ok .none := by
  have h1 : dSum [.tuple (tries.map .int)] = .ok (.int tries.sum) := dSum_t tries
  have h2 : ¬ (4 < (deeds.length : Int)) := by have := F.d4; omega
  have h3 : ¬ (3 < tries.sum) := by have := F.t3; omega
  simp [f_need_size, m_need_size, plD, dLen, h1, h2, h3]
/-- a small weaving, of a row of small deeds -/
theorem pth_exec (F : FewR deeds tries) {d : D} {ws : List Int} (h : Pth (succD deeds tries ru.d) ((init tries).d deeds.length) d ws) : ∃ (ns : List Nat) (s : Sg), ws = ns.map (fun (n : Nat) => (n : Int)) ∧ (∀ n ∈ ns, n ≤ tries.length) ∧ exec ru deeds tries ns (init tries) = some s ∧ RS ru deeds tries s ∧ d = s.d deeds.length := by
  induction h with
  | nil => exact ⟨[], init tries, rfl, by simp, rfl, rs_init F.P, rfl⟩
  | @snoc p d ws w h1 h2 ih =>
    obtain ⟨ns, s, e1, e2, e3, G, e4⟩ := ih
    subst e4
    obtain ⟨n, s', hw, e5, e6⟩ := (succ_iff F.P G).mp h2
    cases e6
    refine ⟨ns ++ [n], s', by rw [e1, List.map_append]; rfl, fun m hm => ?_, ?_, rs_step F.P G hw e5, rfl⟩
    · rcases List.mem_append.mp hm with hm | hm
      · exact e2 m hm
      · rw [List.mem_singleton.mp hm]; exact hw
    · rw [exec_snoc, e3]
      exact e5
/-- all that is reached is met -/
theorem reach_in (F : FewR deeds tries) {E : List (D × D)} {Ls : List D} (h : Lp (GD ru deeds tries) (succD deeds tries ru.d) ((init tries).d deeds.length) none E [] Ls) : ∀ (ns : List Nat) (s s' : Sg), RS ru deeds tries s → s.d deeds.length ∈ ks E → (∀ n ∈ ns, n ≤ tries.length) → exec ru deeds tries ns s = some s' → s'.d deeds.length ∈ ks E
  | [], s, s', G, hd, _, e => by cases e; exact hd
  | n :: ns, s, s', G, hd, hn, e => by
    have e : (step ru deeds tries s n).bind (exec ru deeds tries ns) = some s' := by
      unfold exec at e
      cases q : step ru deeds tries s n with
      | none => rw [q] at e; exact e
      | some s1 => rw [q] at e; exact e
    obtain ⟨s1, e1, e2⟩ := Option.bind_eq_some_iff.mp e
    have hw := hn n List.mem_cons_self
    refine reach_in F h ns s1 s' (rs_step F.P G hw e1) ?_ (fun m hm => hn m (List.mem_cons_of_mem _ hm)) e2
    rcases h.done _ hd with q | q | q
    · cases q
    · cases q
    · exact q _ ((succ_iff F.P G).mpr ⟨n, s1, hw, e1, rfl⟩)
theorem rs_in (F : FewR deeds tries) {E : List (D × D)} {Ls : List D} (h : Lp (GD ru deeds tries) (succD deeds tries ru.d) ((init tries).d deeds.length) none E [] Ls) {s : Sg} (G : RS ru deeds tries s) : s.d deeds.length ∈ ks E := by
  obtain ⟨m0, rest, I, _, ns, n1, n2⟩ := id G
  exact reach_in F h ns _ _ (rs_init F.P) (List.mem_map.mpr ⟨_, List.mem_of_getElem? h.head, rfl⟩) n1 n2
/-! ### how many were got, how many laid -/
end K51


namespace K51
open PySem PySem.Spec L2 PyProof.Rows Bv
variable {deeds : List (Option D)} {tries : List Int} {ru : Ru}
/-! ### the law's own going through all -/
/-- what holds within it -/
structure Lq (G : D → Prop) (succ : D → List D) (d0 : D) (x : Option D) (E : List (D × D)) (W Ls : List D) : Prop where
  keys : ∀ d ∈ ks E, G d
  nd : (ks E).Nodup
  head : d0 ∈ ks E
  wait : ∀ d ∈ W, d ∈ ks E
  done : ∀ d ∈ ks E, d ∈ W ∨ some d = x ∨ ∀ p ∈ succ d, p ∈ ks E
  num : Ls.length + W.length ≤ E.length
  wnd : W.Nodup
  last : ∀ d, d ∈ Ls ↔ d ∈ ks E ∧ d ∉ W ∧ succ d = []
/-- what the law's search wants -/
structure Sq (play rules : D) (T : Nat) (mt : D → Nat → D) (G : D → Prop) (d0 : D) (all : List D) : Prop where
  first : f_law_first [play] = .ok d0
  g0 : G d0
  many : (dIx play (.int 1)).bind (fun a => dLen [a]) = .ok (.int T)
  few2 : T ≤ 1000
  next : ∀ d, G d → ∀ w, w ≤ T → f_law_small_step [play, rules, d, .int w] = .ok (mt d w)
  gs : ∀ d, G d → ∀ w, w ≤ T → mt d w = .none ∨ G (mt d w)
  key : ∀ d, G d → ∃ k, dkey d = some k
  inj : ∀ d e, G d → G e → dkey d = dkey e → d = e
  tup : ∀ d, G d → isTup d = true ∧ imm d = true
  sh : ∀ d, G d → nodict d = true ∧ PyData.canLay0 d = true ∧ d.depth ≤ 5
  mem : ∀ d, G d → d ∈ all
  few : all.length < 16000000
  ip : imm play = true
  ir : imm rules = true
section
variable {play rules : D} {T : Nat} {mt : D → Nat → D} {G : D → Prop} {d0 : D} {all : List D}
def sq (T : Nat) (mt : D → Nat → D) (d : D) : List D := ((List.range (T + 1)).map (mt d)).filter fun x => !(Bv.isN x)
theorem sq_mem {d p : D} : p ∈ sq T mt d ↔ ∃ w, w ≤ T ∧ p = mt d w ∧ Bv.isN p = false := by
  unfold sq
  rw [List.mem_filter, List.mem_map]
  constructor
  · rintro ⟨⟨w, h1, rfl⟩, h2⟩
    exact ⟨w, by have := List.mem_range.mp h1; omega, rfl, by simpa using h2⟩
  · rintro ⟨w, h1, rfl, h2⟩
    exact ⟨⟨w, List.mem_range.mpr (by omega), rfl⟩, by simpa using h2⟩
theorem Sq.gq (S : Sq play rules T mt G d0 all) {d p : D} (g : G d) (h : p ∈ sq T mt d) : G p := by
  obtain ⟨w, h1, rfl, h2⟩ := sq_mem.mp h
  rcases S.gs d g w h1 with q | q
  · rw [q] at h2; cases h2
  · exact q
theorem lookq (S : Sq play rules T mt G d0 all) {E : List (D × D)} (hk : ∀ d ∈ ks E, G d) {d : D} (g : G d) {k : NestedKey} (ek : dkey d = some k) : (lookD E k).isSome = true ↔ d ∈ ks E := by
  unfold lookD
  rw [Option.isSome_map, List.find?_isSome]
  constructor
  · rintro ⟨p, hp, q⟩
    have q := of_decide_eq_true q
    have := S.inj p.1 d (hk _ (List.mem_map.mpr ⟨p, hp, rfl⟩)) g (q.trans ek.symm)
    exact List.mem_map.mpr ⟨p, hp, this⟩
  · intro h
    obtain ⟨p, hp, rfl⟩ := List.mem_map.mp h
    exact ⟨p, hp, decide_eq_true ek⟩
theorem Lq.len (S : Sq play rules T mt G d0 all) {x : Option D} {E : List (D × D)} {W Ls : List D} (h : Lq G (sq T mt) d0 x E W Ls) : E.length ≤ all.length := by
  have := nodup_len h.nd fun d hd => S.mem d (h.keys d hd)
  rwa [List.length_map] at this
theorem Lq.more {x : Option D} {p : D} {E : List (D × D)} {W Ls : List D} (h : Lq G (sq T mt) d0 x E W Ls) (g : G p) (hp : p ∉ ks E) : Lq G (sq T mt) d0 x (E ++ [(p, .bool true)]) (W ++ [p]) Ls := by
  have kk : ks (E ++ [(p, PyData.bool true)]) = ks E ++ [p] := by simp [ks]
  refine ⟨fun e he => ?_, ?_, ?_, fun e he => ?_, fun e he => ?_, ?_, ?_, fun e => ?_⟩
  · rw [kk] at he
    rcases List.mem_append.mp he with he | he
    · exact h.keys e he
    · rw [List.mem_singleton.mp he]; exact g
  · rw [kk]
    exact List.nodup_append.mpr ⟨h.nd, by simp, fun a ha b hb => by rw [List.mem_singleton.mp hb]; exact fun z => hp (z ▸ ha)⟩
  · rw [kk]; exact List.mem_append.mpr (.inl h.head)
  · rw [kk]
    rcases List.mem_append.mp he with he | he
    · exact List.mem_append.mpr (.inl (h.wait e he))
    · exact List.mem_append.mpr (.inr he)
  · rw [kk] at he ⊢
    rcases List.mem_append.mp he with he | he
    · rcases h.done e he with q | q | q
      · exact .inl (List.mem_append.mpr (.inl q))
      · exact .inr (.inl q)
      · exact .inr (.inr fun p' hp' => List.mem_append.mpr (.inl (q p' hp')))
    · exact .inl (List.mem_append.mpr (.inr he))
  · have := h.num
    simp only [List.length_append, List.length_singleton]
    omega
  · exact List.nodup_append.mpr ⟨h.wnd, by simp, fun a ha b hb => by rw [List.mem_singleton.mp hb]; exact fun z => hp (z ▸ h.wait a ha)⟩
  · rw [h.last, kk]
    constructor
    · rintro ⟨q1, q2, q3⟩
      exact ⟨List.mem_append.mpr (.inl q1), fun z => (List.mem_append.mp z).elim q2 fun z => hp (List.mem_singleton.mp z ▸ q1), q3⟩
    · rintro ⟨q1, q2, q3⟩
      have q2' : e ∉ W ∧ e ≠ p := ⟨fun z => q2 (List.mem_append.mpr (.inl z)), fun z => q2 (List.mem_append.mpr (.inr (by rw [z]; exact List.mem_singleton.mpr rfl)))⟩
      refine ⟨(List.mem_append.mp q1).elim id fun z => absurd (List.mem_singleton.mp z) q2'.2, q2'.1, q3⟩
def jbody : Env' → Res := (sif [3] (asB (bi2 dNotIn (var 8) (var 3)))
          (sseq (dput 3 [] (var 8) (cst (.bool true)))
          (app 4 [] (var 8)))
          snext)
def envJ (play rules d0 : D) (E : List (D × D)) (W Ls : List D) (b6 b7 b8 b9 : Sl) : Env' :=
  [.fz play, .fz rules, .fz d0, .ow 1 (.dict ((.none, .int 1) :: E)), .ow 1 (.list W), .ow 1 (.list Ls), b6, b7, b8, b9]
theorem jbody_at (S : Sq play rules T mt G d0 all) {p d6 d7 : D} {b9 : Sl} {x : Option D} {E : List (D × D)} {W Ls : List D} (h : Lq G (sq T mt) d0 x E W Ls) (gp : G p) :
    ∃ E' W', jbody (envJ play rules d0 E W Ls (.fz d6) (.fz d7) (.fz p) b9) = .nx (envJ play rules d0 E' W' Ls (.fz d6) (.fz d7) (.fz p) b9) ∧ Lq G (sq T mt) d0 x E' W' Ls ∧ p ∈ ks E' ∧ (∀ e ∈ ks E, e ∈ ks E') ∧ W'.length + E.length = W.length + E'.length := by
  obtain ⟨k, ek⟩ := S.key p gp
  obtain ⟨tp, ip⟩ := S.tup p gp
  have lm := lookq S h.keys gp ek
  have hl : dNotIn p (.dict ((.none, .int 1) :: E)) = .ok (.bool !(lookD E k).isSome) := by
    unfold dNotIn dLook
    simp [tp, ek]
  by_cases hin : p ∈ ks E
  · refine ⟨E, W, ?_, h, hin, fun e he => he, by omega⟩
    have e1 : (lookD E k).isSome = true := lm.mpr hin
    rw [e1] at hl
    simp -implicitDefEqProofs [jbody, envJ, hl]
  · have e1 : (lookD E k).isSome = false := by
      cases q : (lookD E k).isSome with
      | false => rfl
      | true => exact absurd (lm.mp q) hin
    have h2 := h.more gp hin
    refine ⟨_, _, ?_, h2, by simp [ks], fun e he => by simp only [ks, List.map_append]; exact List.mem_append.mpr (.inl he), by simp only [List.length_append, List.length_singleton]; omega⟩
    have l2 := h2.len S
    have n2 := h2.num
    simp only [List.length_append, List.length_singleton] at l2 n2
    have few := S.few
    have hst : putD (.int 1) E p (.bool true) = some (E ++ [(p, .bool true)]) := by
      unfold putD storeD
      simp [tp, ek, e1]
    rw [e1] at hl
    simp -implicitDefEqProofs [jbody, envJ, hl, dput, ip, hst, show E.length < 16000000 by omega]
    exact app1 (xs := W) (d := p) rfl (by simp) ip (by omega)
theorem jloop (S : Sq play rules T mt G d0 all) {d6 d7 : D} {b9 : Sl} {x : Option D} : ∀ (ps : List D) {E : List (D × D)} {W Ls : List D} (b8 : Sl), (∀ p ∈ ps, G p) → Lq G (sq T mt) d0 x E W Ls →
    ∃ E' W' c8, forL (bName 8) jbody ps (envJ play rules d0 E W Ls (.fz d6) (.fz d7) b8 b9) = .nx (envJ play rules d0 E' W' Ls (.fz d6) (.fz d7) c8 b9) ∧ Lq G (sq T mt) d0 x E' W' Ls ∧ (∀ p ∈ ps, p ∈ ks E') ∧ (∀ e ∈ ks E, e ∈ ks E') ∧ W'.length + E.length = W.length + E'.length
  | [], E, W, Ls, b8, _, h => ⟨E, W, b8, rfl, h, by simp, fun e he => he, by omega⟩
  | p :: ps, E, W, Ls, b8, hg, h => by
    obtain ⟨E1, W1, e1, h1, h2, h3, h4⟩ := jbody_at S (d6 := d6) (d7 := d7) (b9 := b9) h (hg p List.mem_cons_self)
    obtain ⟨E2, W2, c8, e2, k1, k2, k3, k4⟩ := jloop S (d6 := d6) (d7 := d7) (b9 := b9) ps (.fz p) (fun q hq => hg q (List.mem_cons_of_mem _ hq)) h1
    refine ⟨E2, W2, c8, ?_, k1, fun q hq => ?_, fun e he => k3 e (h3 e he), by omega⟩
    · unfold forL
      have : bName 8 p (envJ play rules d0 E W Ls (.fz d6) (.fz d7) b8 b9) = some (envJ play rules d0 E W Ls (.fz d6) (.fz d7) (.fz p) b9) := rfl
      simp only [this, e1]
      exact e2
    · rcases List.mem_cons.mp hq with rfl | hq
      · exact k3 _ h2
      · exact k2 q hq
def jall : Vw → Rv (List D) := cmp [9] (vName 9) yes (cal f_law_small_step (acons (var 0) (acons (var 1) (acons (var 6) (acons (var 9) anil))))) (srcR rng1 (acons (bi2 dAdd (cst (.int 1)) (cal dLen (acons (bi2 dIx (var 0) (cst (.int 1))) anil))) anil))
def jturn : Env' → Res := (sseq (popA 6 4)
      (sseq (asgC 7 0 [] jall)
      (sseq (asgC 7 0 [7] (cmp [8] (vName 8) (asB (bi2 dIsNot (var 8) (cst .none))) (var 8) (srcE (var 7))))
      (sseq (sif [7] (asB (bi2 dEq (var 7) (lstD (lstF anil))))
        (app 5 [] (var 6))
        snext)
      (sfor [7] (bName 8) (var 7) jbody)))))
theorem all_def : m_law_all = sseq (asg 2 [] (cal f_law_first (acons (var 0) anil))) (sseq (asgD1 3 (var 2) (cst (.bool true))) (sseq (asgF 4 [] (lstF (acons (var 2) anil))) (sseq (asgF 5 [] (lstF anil))
    (sseq (fun ρ => whileL [4] ocond jturn ((fun _ => 1000000000) ρ) ρ) (Bv.ret [3, 5] (tupD (acons (var 3) (acons (var 5) anil)))))))) := rfl
theorem jturn_at (S : Sq play rules T mt G d0 all) {E : List (D × D)} {W0 Ls : List D} {d : D} (h : Lq G (sq T mt) d0 none E (W0 ++ [d]) Ls) (b6 b7 b8 b9 : Sl) :
    ∃ E' W' Ls' c6 c7 c8, jturn (envJ play rules d0 E (W0 ++ [d]) Ls b6 b7 b8 b9) = .nx (envJ play rules d0 E' W' Ls' c6 c7 c8 b9) ∧ Lq G (sq T mt) d0 none E' W' Ls' ∧ W'.length + E.length = W0.length + E'.length := by
  have hd : d ∈ ks E := h.wait d (List.mem_append.mpr (.inr (List.mem_singleton.mpr rfl)))
  have gd := h.keys d hd
  have num := h.num
  have len := h.len S
  have few := S.few
  have few2 := S.few2
  simp only [List.length_append, List.length_singleton] at num
  have wn := List.nodup_append.mp h.wnd
  have dW : d ∉ W0 := fun z => wn.2.2 d z d (List.mem_singleton.mpr rfl) rfl
  have hbase : ∀ Ls', Ls'.length ≤ Ls.length + 1 → (∀ e, e ∈ Ls' ↔ e ∈ ks E ∧ e ∉ W0 ∧ sq T mt e = []) → Lq G (sq T mt) d0 (some d) E W0 Ls' := fun Ls' hL hl => ⟨h.keys, h.nd, h.head, fun e he => h.wait e (List.mem_append.mpr (.inl he)), fun e he => (by
    rcases h.done e he with q | q | q
    · rcases List.mem_append.mp q with q | q
      · exact .inl q
      · exact .inr (.inl (by rw [List.mem_singleton.mp q]))
    · cases q
    · exact .inr (.inr q)), by omega, wn.1, hl⟩
  have e0 : popA 6 4 (envJ play rules d0 E (W0 ++ [d]) Ls b6 b7 b8 b9) = .nx (envJ play rules d0 E W0 Ls (.fz d) b7 b8 b9) := by
    simp [popA, envJ]
  have hG : ∀ p ∈ sq T mt d, G p := fun p hp => S.gq gd hp
  have er : rng1 [.int (1 + (T : Int))] = .ok ((List.range (T + 1)).map fun (i : Nat) => (.int i : D)) := by
    rw [rng1_i, if_pos (rngOk_of (by omega) (by omega))]
    unfold rangeD
    rw [show (1 + (T : Int) - 0).toNat = T + 1 by omega]
    simp
  have hall : ∀ η7 η8, jall [some play, some rules, some d0, none, none, none, some d, η7, η8, none] = .ok ((List.range (T + 1)).map (mt d)) := fun η7 η8 => by
    refine cmp_ok (xs := (List.range (T + 1)).map fun (i : Nat) => (.int i : D)) ?_ (by rw [List.length_map, List.length_range]; omega) (compL_map fun w hw => ⟨_, rfl, rfl, ?_⟩)
    · have hm := S.many
      cases q : dIx play (.int 1) with
      | ok v =>
        rw [q] at hm
        simp only [Rv.bind_ok] at hm
        rw [srcR_def]
        simp -implicitDefEqProofs [q, hm]
        exact er
      | un => rw [q] at hm; cases hm
      | xc x => rw [q] at hm; cases hm
    · have := List.mem_range.mp hw
      simp -implicitDefEqProofs [S.next d gd w (by omega)]
  have himm : immA ((List.range (T + 1)).map (mt d)) = true := immA_of fun x hx => by
    obtain ⟨w, hw, rfl⟩ := List.mem_map.mp hx
    have := List.mem_range.mp hw
    rcases S.gs d gd w (by omega) with q | q
    · rw [q]; rfl
    · exact (S.tup _ q).2
  have hev : ∃ η7 η8 η9, vw [] (envJ play rules d0 E W0 Ls (.fz d) b7 b8 b9) = [some play, some rules, some d0, none, none, none, some d, η7, η8, η9] := ⟨vw1 [] 7 b7, vw1 [] 8 b8, vw1 [] 9 b9, by simp [envJ]⟩
  have e1 : asgC 7 0 [] jall (envJ play rules d0 E W0 Ls (.fz d) b7 b8 b9) = .nx (envJ play rules d0 E W0 Ls (.fz d) (.ow 1 (.list ((List.range (T + 1)).map (mt d)))) b8 b9) := by
    obtain ⟨η7, η8, η9, ev⟩ := hev
    have : jall [some play, some rules, some d0, none, none, none, some d, η7, η8, η9] = .ok ((List.range (T + 1)).map (mt d)) := by
      have := hall η7 η8
      unfold jall at this ⊢
      rw [cmp_def] at this ⊢
      exact this
    rw [asgC_def, ev, this]
    simp only [Rv.st_ok]
    rw [if_pos (by simp [envJ]), if_pos himm]
    rfl
  have hsq : sq T mt d = ((List.range (T + 1)).map (mt d)).filter fun x => !(Bv.isN x) := rfl
  have himm2 : immA (sq T mt d) = true := immA_of fun x hx => (S.tup _ (hG x hx)).2
  have e2 : asgC 7 0 [7] (cmp [8] (vName 8) (asB (bi2 dIsNot (var 8) (cst .none))) (var 8) (srcE (var 7))) (envJ play rules d0 E W0 Ls (.fz d) (.ow 1 (.list ((List.range (T + 1)).map (mt d)))) b8 b9) = .nx (envJ play rules d0 E W0 Ls (.fz d) (.ow 1 (.list (sq T mt d))) b8 b9) := by
    have hl : ((List.range (T + 1)).map (mt d)).length ≤ 16000000 := by rw [List.length_map, List.length_range]; omega
    rw [hsq] at himm2 ⊢
    generalize (List.range (T + 1)).map (mt d) = xs at *
    have : cmp [8] (vName 8) (asB (bi2 dIsNot (var 8) (cst .none))) (var 8) (srcE (var 7)) (vw [7] (envJ play rules d0 E W0 Ls (.fz d) (.ow 1 (.list xs)) b8 b9)) = .ok (xs.filter fun x => !(Bv.isN x)) := by
      refine cmp_ok (xs := xs) (by simp [envJ]) hl ?_
      have := compL_filter (A := D) (b := vName 8) (ft := asB (bi2 dIsNot (var 8) (cst .none))) (fe := var 8) (η := wipeV [8] (vw [7] (envJ play rules d0 E W0 Ls (.fz d) (.ow 1 (.list xs)) b8 b9))) (g := id) (h := id) (p := fun x => !(Bv.isN x)) (xs := xs) fun x hx => ⟨_, rfl, by simp [envJ], fun _ => by simp [envJ]⟩
      simpa using this
    rw [asgC_def, this]
    simp only [Rv.st_ok]
    rw [if_pos (by simp [envJ]), if_pos himm2]
    rfl
  have hsh : ∀ x ∈ sq T mt d, nodict x = true ∧ PyData.canLay0 x = true ∧ x.depth ≤ 20 := fun x hx => by
    obtain ⟨a, b, c⟩ := S.sh x (hG x hx)
    exact ⟨a, b, by omega⟩
  have eq := dEq_row hsh
  obtain ⟨Ls', e3, hL⟩ : ∃ Ls', (sif [7] (asB (bi2 dEq (var 7) (lstD (lstF anil)))) (app 5 [] (var 6)) snext) (envJ play rules d0 E W0 Ls (.fz d) (.ow 1 (.list (sq T mt d))) b8 b9) = .nx (envJ play rules d0 E W0 Ls' (.fz d) (.ow 1 (.list (sq T mt d))) b8 b9) ∧ Ls'.length ≤ Ls.length + 1 ∧ ((sq T mt d = [] ∧ Ls' = Ls ++ [d]) ∨ (sq T mt d ≠ [] ∧ Ls' = Ls)) := by
    clear hbase
    generalize sq T mt d = ys at *
    cases hz : ys.isEmpty with
    | true =>
      rw [hz] at eq
      refine ⟨Ls ++ [d], ?_, by simp, .inl ⟨List.isEmpty_iff.mp hz, rfl⟩⟩
      simp -implicitDefEqProofs [envJ, eq]
      exact app1 (xs := Ls) (d := d) rfl (by simp) (S.tup d gd).2 (by omega)
    | false =>
      rw [hz] at eq
      refine ⟨Ls, ?_, by omega, .inr ⟨fun z => (by rw [z] at hz; cases hz), rfl⟩⟩
      simp -implicitDefEqProofs [envJ, eq]
  have hl : ∀ e, e ∈ Ls' ↔ e ∈ ks E ∧ e ∉ W0 ∧ sq T mt e = [] := fun e => by
    obtain ⟨_, q | q⟩ := hL
    · rw [q.2, List.mem_append, h.last]
      constructor
      · rintro (⟨a1, a2, a3⟩ | a)
        · exact ⟨a1, fun z => a2 (List.mem_append.mpr (.inl z)), a3⟩
        · rw [List.mem_singleton.mp a]
          exact ⟨hd, dW, q.1⟩
      · rintro ⟨a1, a2, a3⟩
        by_cases z : e = d
        · exact .inr (List.mem_singleton.mpr z)
        · exact .inl ⟨a1, fun y => (List.mem_append.mp y).elim a2 fun y => z (List.mem_singleton.mp y), a3⟩
    · rw [q.2, h.last]
      constructor
      · rintro ⟨a1, a2, a3⟩
        exact ⟨a1, fun z => a2 (List.mem_append.mpr (.inl z)), a3⟩
      · rintro ⟨a1, a2, a3⟩
        refine ⟨a1, fun y => (List.mem_append.mp y).elim a2 fun y => q.1 ?_, a3⟩
        rw [← List.mem_singleton.mp y]; exact a3
  obtain ⟨E', W', c8, e4, h4, h5, h6, h7⟩ := jloop S (d6 := d) (d7 := .list (sq T mt d)) (b9 := b9) (sq T mt d) b8 hG (hbase Ls' hL.1 hl)
  refine ⟨E', W', Ls', .fz d, .fz (.list (sq T mt d)), c8, ?_, ⟨h4.keys, h4.nd, h4.head, h4.wait, fun e he => ?_, h4.num, h4.wnd, h4.last⟩, h7⟩
  · unfold jturn
    rw [sseq_nx e0, sseq_nx e1, sseq_nx e2, sseq_nx e3]
    have e5 : sfor [7] (bName 8) (var 7) jbody (envJ play rules d0 E W0 Ls' (.fz d) (.ow 1 (.list (sq T mt d))) b8 b9) = forL (bName 8) jbody (sq T mt d) (frz [7] (envJ play rules d0 E W0 Ls' (.fz d) (.ow 1 (.list (sq T mt d))) b8 b9)) := by
      rw [sfor_def]
      generalize sq T mt d = ys
      simp -implicitDefEqProofs [envJ]
    have e6 : frz [7] (envJ play rules d0 E W0 Ls' (.fz d) (.ow 1 (.list (sq T mt d))) b8 b9) = envJ play rules d0 E W0 Ls' (.fz d) (.fz (.list (sq T mt d))) (frz1 [7] 8 b8) (frz1 [7] 9 b9) := by
      simp [envJ]
    have f8 : ∀ (i : Nat) (b : Sl), i ≠ 7 → frz1 [7] i b = b := fun i b hi => by
      cases b <;> simp [hi]
    rw [e5, e6, f8 8 _ (by decide), f8 9 _ (by decide)]
    exact e4
  · rcases h4.done e he with q | q | q
    · exact .inl q
    · cases q
      exact .inr (.inr h5)
    · exact .inr (.inr q)
theorem jwhile (S : Sq play rules T mt G d0 all) : ∀ (n : Nat) {E : List (D × D)} {W Ls : List D} (b6 b7 b8 b9 : Sl), Lq G (sq T mt) d0 none E W Ls → all.length + W.length + 1 ≤ n + E.length →
    ∃ E' Ls' c6 c7 c8, whileL [4] ocond jturn n (envJ play rules d0 E W Ls b6 b7 b8 b9) = .nx (envJ play rules d0 E' [] Ls' c6 c7 c8 b9) ∧ Lq G (sq T mt) d0 none E' [] Ls'
  | 0, E, W, Ls, b6, b7, b8, b9, h, hn => by
    have := h.len S
    omega
  | n + 1, E, W, Ls, b6, b7, b8, b9, h, hn => by
    have hsh : ∀ x ∈ W, nodict x = true ∧ PyData.canLay0 x = true ∧ x.depth ≤ 20 := fun x hx => by
      obtain ⟨a, b, c⟩ := S.sh x (h.keys x (h.wait x hx))
      exact ⟨a, b, by omega⟩
    have hc : ocond (vw [4] (envJ play rules d0 E W Ls b6 b7 b8 b9)) = .ok (!W.isEmpty) := by
      have e := dEq_row hsh
      have e2 : dNe (.list W) (.list []) = .ok (.bool !W.isEmpty) := by unfold dNe; rw [e]; rfl
      simp -implicitDefEqProofs [ocond, envJ, e2]
    unfold whileL
    rw [hc]
    rcases List.eq_nil_or_concat W with rfl | ⟨W0, d, rfl⟩
    · exact ⟨E, Ls, b6, b7, b8, rfl, h⟩
    · rw [List.concat_eq_append] at *
      obtain ⟨E', W', Ls', c6, c7, c8, e, h2, h3⟩ := jturn_at S h b6 b7 b8 b9
      obtain ⟨E2, L2', c6, c7, c8, e2, h4⟩ := jwhile S n c6 c7 c8 b9 h2 (by
        simp only [List.length_append, List.length_singleton] at hn
        omega)
      refine ⟨E2, L2', c6, c7, c8, ?_, h4⟩
      have hne : (!(W0 ++ [d]).isEmpty) = true := by cases W0 <;> rfl
      simp only [Rv.st_ok, hne, if_true, e]
      exact e2
theorem lall_at (S : Sq play rules T mt G d0 all) : ∃ E Ls, f_law_all [play, rules] = .ok (.tuple [.dict ((.none, .int 1) :: E), .list Ls]) ∧ Lq G (sq T mt) d0 none E [] Ls := by
  obtain ⟨k, ek⟩ := S.key d0 S.g0
  obtain ⟨tp, ip⟩ := S.tup d0 S.g0
  have iq := S.ip
  have ir := S.ir
  have h0 : Lq G (sq T mt) d0 none [(d0, .bool true)] [d0] [] := by
    refine ⟨fun d hd => ?_, by simp [ks], by simp [ks], fun d hd => hd, fun d hd => .inl hd, by simp, by simp, fun d => Iff.intro (fun h => absurd h (by simp)) (fun h => absurd h.1 h.2.1)⟩
    rw [List.mem_singleton.mp hd]; exact S.g0
  have few := S.few
  obtain ⟨E, Ls, c6, c7, c8, e, h⟩ := jwhile S 1000000000 .un .un .un .un h0 (by simp only [List.length_singleton]; omega)
  refine ⟨E, Ls, ?_, h⟩
  unfold f_law_all
  rw [all_def]
  have e1 : asg 2 [] (cal f_law_first (acons (var 0) anil)) (entry 8 [play, rules]) = .nx [.fz play, .fz rules, .fz d0, .un, .un, .un, .un, .un, .un, .un] := by
    simp -implicitDefEqProofs [S.first, ip]
  have e2 : asgD1 3 (var 2) (cst (.bool true)) [.fz play, .fz rules, .fz d0, .un, .un, .un, .un, .un, .un, .un] = .nx [.fz play, .fz rules, .fz d0, .ow 1 (.dict [(.none, .int 1), (d0, .bool true)]), .un, .un, .un, .un, .un, .un] := by
    simp -implicitDefEqProofs [asgD1, tp, ip, ek]
  have e3 : asgF 4 [] (lstF (acons (var 2) anil)) [.fz play, .fz rules, .fz d0, .ow 1 (.dict [(.none, .int 1), (d0, .bool true)]), .un, .un, .un, .un, .un, .un] = .nx [.fz play, .fz rules, .fz d0, .ow 1 (.dict [(.none, .int 1), (d0, .bool true)]), .ow 1 (.list [d0]), .un, .un, .un, .un, .un] := by
    simp -implicitDefEqProofs [ip]
  have e4 : asgF 5 [] (lstF anil) [.fz play, .fz rules, .fz d0, .ow 1 (.dict [(.none, .int 1), (d0, .bool true)]), .ow 1 (.list [d0]), .un, .un, .un, .un, .un] = .nx (envJ play rules d0 [(d0, .bool true)] [d0] [] .un .un .un .un) := by
    simp -implicitDefEqProofs [envJ]
  rw [sseq_nx e1, sseq_nx e2, sseq_nx e3, sseq_nx e4]
  have e5 : (fun ρ => whileL [4] ocond jturn ((fun _ => 1000000000) ρ) ρ) (envJ play rules d0 [(d0, .bool true)] [d0] [] .un .un .un .un) = .nx (envJ play rules d0 E [] Ls c6 c7 c8 .un) := e
  rw [sseq_nx e5]
  simp -implicitDefEqProofs [envJ]
end
end K51


namespace K51
open PySem PySem.Spec L2 PyProof.Rows Bv
variable {deeds : List (Option D)} {tries : List Int} {ru : Ru}
def mtL (ru : Ru) (deeds : List (Option D)) (tries : List Int) (d : D) (w : Nat) : D := match f_law_small_step [plD deeds tries, ru.d, d, .int w] with | .ok d' => d' | _ => .none
def GL (ru : Ru) (deeds : List (Option D)) (tries : List Int) (d : D) : Prop := ∃ s, RS ru deeds tries s ∧ d = s.d 8
theorem mtL_at {s : Sg} {w : Nat} (P : Pl deeds tries) (G : RS ru deeds tries s) (hw : w ≤ tries.length) :
    f_law_small_step [plD deeds tries, ru.d, s.d 8, .int w] = .ok (mtL ru deeds tries (s.d 8) w) ∧ mtL ru deeds tries (s.d 8) w = (match step ru deeds tries s w with | none => .none | some s' => s'.d 8) := by
  have := law_step_at (ru := ru) P G.good hw
  unfold mtL
  rw [this]
  exact ⟨rfl, rfl⟩
theorem sq_at (F : FewR deeds tries) (ru : Ru) : Sq (plD deeds tries) ru.d tries.length (mtL ru deeds tries) (GL ru deeds tries) ((init tries).d 8) ((allS deeds tries).map (·.d 8)) where
  first := law_first_at F.P
  g0 := ⟨_, rs_init F.P, rfl⟩
  many := by simp [plD, dLen]
  few2 := by have := F.P.tl; omega
  next := fun d ⟨s, G, e⟩ w hw => by rw [e]; exact (mtL_at F.P G hw).1
  gs := fun d ⟨s, G, e⟩ w hw => by
    subst e
    rw [(mtL_at F.P G hw).2]
    cases q : step ru deeds tries s w with
    | none => exact .inl rfl
    | some s' => exact .inr ⟨s', rs_step F.P G hw q, rfl⟩
  key := fun d ⟨s, ⟨_, _, I, _⟩, e⟩ => by
    subst e
    obtain ⟨k, h, _⟩ := fl_key (fl_st I _)
    exact ⟨k, h⟩
  inj := fun d e ⟨s, ⟨_, _, I, _⟩, hd⟩ ⟨s2, ⟨_, _, I2, _⟩, he⟩ h => by
    subst hd he
    obtain ⟨k, h1, h2⟩ := fl_key (fl_st I 8)
    obtain ⟨k', h3, h4⟩ := fl_key (fl_st I2 8)
    rw [h1, h3] at h
    cases h
    exact nkey_inj (fl_st I _).nb (fl_st I2 _).nb h2 h4
  tup := fun d ⟨s, ⟨_, _, I, _⟩, e⟩ => by subst e; exact ⟨rfl, (fl_st I _).im⟩
  sh := fun d ⟨s, ⟨_, _, I, _⟩, e⟩ => by subst e; exact ⟨(fl_st I _).nd, (fl_st I _).cl, Nat.le_trans (fl_st I _).dp (by omega)⟩
  mem := fun d ⟨s, ⟨_, _, I, B, _⟩, e⟩ => List.mem_map.mpr ⟨s, mem_allS I B, e.symm⟩
  few := by rw [List.length_map]; exact allS_len F.d4 F.P.tl (fun k hk => (F.P.tk k hk).1) F.t3
  ip := imm_pl F.P
  ir := ru_imm ru
theorem reach_q (F : FewR deeds tries) {E : List (D × D)} {Ls : List D} (h : Lq (GL ru deeds tries) (sq tries.length (mtL ru deeds tries)) ((init tries).d 8) none E [] Ls) : ∀ (ns : List Nat) (s s' : Sg), RS ru deeds tries s → s.d 8 ∈ ks E → (∀ n ∈ ns, n ≤ tries.length) → exec ru deeds tries ns s = some s' → s'.d 8 ∈ ks E
  | [], s, s', G, hd, _, e => by cases e; exact hd
  | n :: ns, s, s', G, hd, hn, e => by
    have e : (step ru deeds tries s n).bind (exec ru deeds tries ns) = some s' := by
      unfold exec at e
      cases q : step ru deeds tries s n with
      | none => rw [q] at e; exact e
      | some s1 => rw [q] at e; exact e
    obtain ⟨s1, e1, e2⟩ := Option.bind_eq_some_iff.mp e
    have hw := hn n List.mem_cons_self
    refine reach_q F h ns s1 s' (rs_step F.P G hw e1) ?_ (fun m hm => hn m (List.mem_cons_of_mem _ hm)) e2
    rcases h.done _ hd with q | q | q
    · cases q
    · cases q
    · refine q _ (sq_mem.mpr ⟨n, hw, ?_, rfl⟩)
      rw [(mtL_at F.P G hw).2, e1]
theorem rs_q (F : FewR deeds tries) {E : List (D × D)} {Ls : List D} (h : Lq (GL ru deeds tries) (sq tries.length (mtL ru deeds tries)) ((init tries).d 8) none E [] Ls) {s : Sg} (G : RS ru deeds tries s) : s.d 8 ∈ ks E := by
  obtain ⟨m0, rest, I, _, ns, n1, n2⟩ := id G
  exact reach_q F h ns _ _ (rs_init F.P) h.head n1 n2
/-! ### more got than laid, by the law's look -/
end K51


namespace K51
open PySem PySem.Spec L2 PyProof.Rows Bv
variable {deeds : List (Option D)} {tries : List Int} {ru : Ru}
theorem told_by_at {s : Sg} {m0 : Mv} {rest : List Mv} (P : Pl deeds tries) (I : Inv deeds tries s m0 rest) : f_told_by [s.d deeds.length] = .ok (told s) := by
  obtain ⟨f0, f1, f2⟩ := bounds P I
  have tS := toldS I
  have dl := P.dl
  have bl := I.bl
  have ml : s.mv.length ≤ 1000 := by rw [I.mv, List.length_cons, I.rl]; have := P.tl; omega
  have tlb : (s.bx.take deeds.length).length = deeds.length := by rw [List.length_take]; omega
  have e1 : ∀ η : Vw, compL (vName 5) yes (lstD (immL (calF dList (acons (bi2 dIx (var 5) (cst (.int 4))) anil)))) (s.mv.map Mv.d) ([some (s.d deeds.length), some (.int s.near), some (.int s.far), some (.tuple (s.bx.take deeds.length)), some (.tuple (s.mv.map Mv.d)), none]) = .ok (s.mv.map fun m => .list m.told) := fun η =>
    compL_map fun m hm => ⟨_, rfl, rfl, by simp [immA_of fun d hd => (tS m hm d hd).imm]⟩
  have e2 : immA (((s.bx.take deeds.length).drop s.far.toNat).take ((max s.near s.far).toNat - s.far.toNat)) = true :=
    immA_of fun d hd => (I.bs d (List.mem_of_mem_take (List.mem_of_mem_drop (List.mem_of_mem_take hd)))).imm
  have mx : (if s.far < s.near then s.near else s.far) = max s.near s.far := by omega
  simp only [Sg.d] at e1
  simp [f_told_by, m_told_by, untup_def, Sg.d, e1 [], mx]
  rw [if_pos (by omega), cut_both _ f0 (by omega) (by rw [tlb]; omega) (by rw [tlb]; omega), if_pos e2, take_cut _ (by omega)]
  rfl
theorem law_told_at {s : Sg} {m0 : Mv} {rest : List Mv} (P : Pl deeds tries) (I : Inv deeds tries s m0 rest) : f_law_told_by [s.d 8] = .ok (told s) := by
  obtain ⟨f0, f1, f2⟩ := bounds P I
  have dl := P.dl
  have bl := I.bl
  have ml : s.mv.length ≤ 1000 := by rw [I.mv, List.length_cons, I.rl]; have := P.tl; omega
  have tlb : (s.bx.take 8).length = 8 := by rw [List.length_take]; omega
  have e1 : ∀ η : Vw, compL (vName 5) yes (lstD (calF dList (acons (bi2 dIx (var 5) (cst (.int 4))) anil))) (s.mv.map Mv.d) ([some (s.d 8), some (.int s.near), some (.int s.far), some (.tuple (s.bx.take 8)), some (.tuple (s.mv.map Mv.d)), none]) = .ok (s.mv.map fun m => .list m.told) := fun η =>
    compL_map fun m hm => ⟨_, rfl, rfl, by simp⟩
  have mx : (if s.near < s.far then s.far else s.near) = max s.near s.far := by omega
  simp only [Sg.d] at e1
  simp [f_law_told_by, m_law_told_by, untup_def, Sg.d, e1 [], mx]
  rw [if_pos (by omega), cut_both _ f0 (by omega) (by rw [tlb]; omega) (by rw [tlb]; omega), take_cut _ (by omega)]
  rfl
theorem sm_all {xs : List D} (h : ∀ d ∈ xs, Sm d) : nodictA xs = true ∧ PyData.showableAll xs = true ∧ PyData.depthAll xs = 0 ∧ PyData.leavesShortAll 110 xs = true ∧ PyData.weightAll xs ≤ 111 * xs.length := by
  induction xs with
  | nil => exact ⟨rfl, rfl, rfl, rfl, Nat.le_refl _⟩
  | cons d xs ih =>
    obtain ⟨h1, h2, h3, h4, h5⟩ := ih fun x hx => h x (List.mem_cons_of_mem _ hx)
    have hd : nodict d = true ∧ d.showable = true ∧ d.depth = 0 ∧ d.leavesShort 110 = true ∧ d.weight ≤ 110 := by
      rcases h d List.mem_cons_self with rfl | rfl | ⟨i, rfl, hi⟩
      · exact ⟨rfl, rfl, rfl, rfl, by decide⟩
      · exact ⟨rfl, rfl, rfl, by decide +kernel, by decide +kernel⟩
      · have hl : i.natAbs ≠ 0 → i.natAbs.log2 < 101 := fun hz => (Nat.log2_lt hz).mpr hi
        have hl' : i.natAbs.log2 < 101 := by
          by_cases hz : i.natAbs = 0
          · rw [hz]; decide
          · exact hl hz
        refine ⟨rfl, ?_, rfl, ?_, ?_⟩
        · simp only [PyData.showable]
          exact decide_eq_true (by omega)
        · simp only [PyData.leavesShort, PyData.shown]
          refine decide_eq_true ?_
          have := int_text_length_le (a := i) (k := 101) (by decide) hl'
          rw [PySem.ofString_length]
          omega
        · simp only [PyData.weight]
          split <;> omega
    refine ⟨by simp [nodictA, hd.1, h1], by simp [PyData.showableAll, hd.2.1, h2], by simp [PyData.depthAll, hd.2.2.1, h3], by simp [PyData.leavesShortAll, hd.2.2.2.1, h4], ?_⟩
    have := hd.2.2.2.2
    simp only [PyData.weightAll, List.length_cons]
    omega
/-- rows of such -/
theorem sm_rows {xss : List (List D)} (h : ∀ xs ∈ xss, (∀ d ∈ xs, Sm d) ∧ xs.length ≤ 10) : nodictA (xss.map .list) = true ∧ PyData.showableAll (xss.map .list) = true ∧ PyData.depthAll (xss.map .list) ≤ 1 ∧ PyData.leavesShortAll 110 (xss.map .list) = true ∧ PyData.weightAll (xss.map .list) ≤ 1111 * xss.length := by
  induction xss with
  | nil => exact ⟨rfl, rfl, Nat.zero_le _, rfl, Nat.le_refl _⟩
  | cons xs xss ih =>
    obtain ⟨h1, h2, h3, h4, h5⟩ := ih fun x hx => h x (List.mem_cons_of_mem _ hx)
    obtain ⟨hx, hl⟩ := h xs List.mem_cons_self
    obtain ⟨g1, g2, g3, g4, g5⟩ := sm_all hx
    refine ⟨by simp [nodictA, nodict, g1, h1], by simp [PyData.showableAll, PyData.showable, g2, h2], ?_, by simp [PyData.leavesShortAll, PyData.leavesShort, g4, h4], ?_⟩
    · simp only [List.map_cons, PyData.depthAll, PyData.depth, g3]
      omega
    · simp only [List.map_cons, PyData.weightAll, PyData.weight, List.length_cons]
      omega
theorem repr_row {ys : List D} (h : ∀ d ∈ ys, Sm d) (hl : ys.length ≤ 10) : ∃ t, dRepr [.list ys] = .ok (.str t) := by
  obtain ⟨g1, g2, g3, g4, g5⟩ := sm_all h
  refine ⟨(PyData.list ys).shown, ?_⟩
  rw [dRepr_1, if_pos]
  have := PyData.shown_le 110 (by decide) (.list ys) (by simpa [PyData.leavesShort] using g4)
  simp only [PyData.weight] at this
  exact ⟨by simpa [nodict] using g1, by simpa [PyData.showable] using g2, by simp only [PyData.depth, g3]; omega, by omega⟩
theorem repr_rows {xss : List (List D)} (h : ∀ xs ∈ xss, (∀ d ∈ xs, Sm d) ∧ xs.length ≤ 10) (hl : xss.length ≤ 10) : ∃ t, dRepr [.list (xss.map .list)] = .ok (.str t) := by
  obtain ⟨g1, g2, g3, g4, g5⟩ := sm_rows h
  refine ⟨(PyData.list (xss.map .list)).shown, ?_⟩
  rw [dRepr_1, if_pos]
  have := PyData.shown_le 110 (by decide) (.list (xss.map .list)) (by simpa [PyData.leavesShort] using g4)
  simp only [PyData.weight] at this
  exact ⟨by simpa [nodict] using g1, by simpa [PyData.showable] using g2, by simp only [PyData.depth]; omega, by omega⟩
theorem repr_told {xss : List (List D)} {ys : List D} (h : ∀ xs ∈ xss, (∀ d ∈ xs, Sm d) ∧ xs.length ≤ 10) (hl : xss.length ≤ 10) (h2 : ∀ d ∈ ys, Sm d) (hl2 : ys.length ≤ 10) : ∃ t, dRepr [.tuple [.list (xss.map .list), .list ys]] = .ok (.str t) := by
  obtain ⟨g1, g2, g3, g4, g5⟩ := sm_rows h
  obtain ⟨k1, k2, k3, k4, k5⟩ := sm_all h2
  refine ⟨(PyData.tuple [.list (xss.map .list), .list ys]).shown, ?_⟩
  rw [dRepr_1, if_pos]
  have := PyData.shown_le 110 (by decide) (.tuple [.list (xss.map .list), .list ys]) (by simp [PyData.leavesShort, PyData.leavesShortAll, g4, k4])
  simp only [PyData.weight, PyData.weightAll] at this
  exact ⟨by simp [nodict, nodictA, g1, k1], by simp [PyData.showable, PyData.showableAll, g2, k2], by simp only [PyData.depth, PyData.depthAll, k3]; omega, by omega⟩
/-- what is told of a state: rows that can be shown -/
theorem told_rows {s : Sg} (P : Pl deeds tries) (G : Good deeds tries s) : ∃ (t0 : List D) (xss : List (List D)) (ys : List D), told s = .tuple [.list (.list t0 :: xss.map .list), .list ys] ∧ (∀ xs ∈ t0 :: xss, (∀ d ∈ xs, Sm d) ∧ xs.length ≤ 10) ∧ xss.length ≤ 9 ∧ (∀ d ∈ ys, Sm d) ∧ ys.length ≤ 10 := by
  obtain ⟨m0, rest, I⟩ := G
  have dl := P.dl
  have tl := P.tl
  have tS := toldS I
  refine ⟨m0.told, rest.map Mv.told, (s.bx.drop s.far.toNat).take ((max s.near s.far).toNat - s.far.toNat), ?_, ?_, by rw [List.length_map, I.rl]; omega, fun d hd => I.bs d (List.mem_of_mem_drop (List.mem_of_mem_take hd)), ?_⟩
  · unfold told
    rw [I.mv, List.map_cons, List.map_map]
    rfl
  · intro xs hx
    rcases List.mem_cons.mp hx with rfl | hx
    · refine ⟨I.own.sm, ?_⟩
      have := I.own.tl
      have := I.own.n1
      omega
    · obtain ⟨m, hm, rfl⟩ := List.mem_map.mp hx
      refine ⟨tS m (by rw [I.mv]; exact List.mem_cons_of_mem _ hm), ?_⟩
      obtain ⟨i, hi⟩ := List.getElem?_of_mem hm
      have hl := (List.getElem?_eq_some_iff.mp hi).1
      have hk : tries[i]? = some (tries[i]'(by rw [← I.rl]; exact hl)) := List.getElem?_eq_getElem _
      have T := I.th i m _ hi hk
      have := P.tk _ (List.mem_of_getElem? hk)
      have := T.tl
      have := T.n1
      omega
  · have := I.bl
    rw [List.length_take, List.length_drop]
    omega
theorem repr_ts {s : Sg} (P : Pl deeds tries) (G : Good deeds tries s) : ∃ t, dRepr [told s] = .ok (.str t) := by
  obtain ⟨t0, xss, ys, et, h1, h2, h3, h4⟩ := told_rows P G
  rw [et]
  exact repr_told (xss := t0 :: xss) h1 (by simp; omega) h3 h4
theorem last_done (F : FewR deeds tries) {s : Sg} (G : RS .good deeds tries s) (h : succD deeds tries Ru.good.d (s.d deeds.length) = []) : ∀ w, w ≤ tries.length → step .good deeds tries s w = none := fun w hw => by
  cases e : step .good deeds tries s w with
  | none => rfl
  | some s' =>
    have : ((w : Int), s'.d deeds.length) ∈ succD deeds tries Ru.good.d (s.d deeds.length) := (succ_iff F.P G).mpr ⟨w, s', hw, e, rfl⟩
    rw [h] at this
    cases this
theorem canLay_sm {xs : List D} (h : ∀ d ∈ xs, Sm d) : PyData.canLayAll0 xs = true := by
  induction xs with
  | nil => rfl
  | cons x xs ih => simp [PyData.canLayAll0, (fl_sm (h x List.mem_cons_self)).cl, ih fun d hd => h d (List.mem_cons_of_mem _ hd)]
theorem shp_told {rows : List (List D)} {left : List D} (h : ∀ r ∈ rows, ∀ d ∈ r, Sm d) (h2 : ∀ d ∈ left, Sm d) : shp (.tuple [.list (rows.map .list), .list left]) = true ∧ PyData.canLay0 (.tuple [.list (rows.map .list), .list left]) = true ∧ nodict (.tuple [.list (rows.map .list), .list left]) = true ∧ PyData.depth (.tuple [.list (rows.map .list), .list left]) ≤ 20 := by
  have hr : ∀ rows : List (List D), (∀ r ∈ rows, ∀ d ∈ r, Sm d) → nodictA (rows.map .list) = true ∧ PyData.canLayAll0 (rows.map .list) = true ∧ PyData.depthAll (rows.map .list) ≤ 1 := fun rows => by
    induction rows with
    | nil => intro _; exact ⟨rfl, rfl, by simp [PyData.depthAll]⟩
    | cons r rows ih =>
      intro h
      obtain ⟨a, b, c⟩ := ih fun r hr => h r (List.mem_cons_of_mem _ hr)
      obtain ⟨k1, _, k3, _⟩ := sm_all (h r List.mem_cons_self)
      have k2 := canLay_sm (h r List.mem_cons_self)
      refine ⟨by simp [nodictA, nodict, a, k1], by simp [PyData.canLayAll0, PyData.canLay0, b, k2], by simp only [List.map_cons, PyData.depthAll, PyData.depth, k3]; omega⟩
  obtain ⟨a, b, c⟩ := hr rows h
  obtain ⟨k1, _, k3, _⟩ := sm_all h2
  have k2 := canLay_sm h2
  have cl : PyData.canLay0 (.tuple [.list (rows.map .list), .list left]) = true := by simp [PyData.canLay0, PyData.canLayAll0, b, k2]
  have dp : PyData.depth (.tuple [.list (rows.map .list), .list left]) ≤ 20 := by simp only [PyData.depth, PyData.depthAll, k3]; omega
  have nd : nodict (.tuple [.list (rows.map .list), .list left]) = true := by simp [nodict, nodictA, a, k1]
  exact ⟨by simp [shp, nd, SeqAt.shaped, cl, show PyData.depth (.tuple [.list (rows.map .list), .list left]) ≤ 64 by omega], cl, nd, dp⟩
theorem told_shp {s : Sg} {m0 : Mv} {rest : List Mv} (I : Inv deeds tries s m0 rest) : shp (told s) = true ∧ PyData.canLay0 (told s) = true ∧ nodict (told s) = true ∧ (told s).depth ≤ 20 := by
  have := shp_told (rows := s.mv.map Mv.told) (left := (s.bx.drop s.far.toNat).take ((max s.near s.far).toNat - s.far.toNat)) (fun r hr d hd => by
    obtain ⟨m, hm, rfl⟩ := List.mem_map.mp hr
    exact toldS I m hm d hd) fun d hd => I.bs d (List.mem_of_mem_drop (List.mem_of_mem_take hd))
  unfold told
  simpa [List.map_map, Function.comp_def] using this
theorem dEq_tup {a : List D} {x : List D} (h1 : shp (.tuple a) = true) (h2 : shp (.tuple x) = true) : dEq (.tuple a) (.tuple x) = .ok (.bool (PyData.eqv (.tuple a) (.tuple x))) := dEq_any h1 h2 (fun _ _ q => by cases q.1) fun _ _ q => by cases q.1
end K51

namespace K51
open PySem PySem.Spec L2 PyProof.Rows Bv
/-! ### what is told of two states is one, where its text is one -/
def tx (d : D) : List Nat := d.shown.cps.toList
theorem tx_none : tx .none = [78, 111, 110, 101] := by kernel_rfl
theorem tx_lost : tx (.str "lost") = [39, 108, 111, 115, 116, 39] := by kernel_rfl
theorem tx_nat (n : Nat) : tx (.int (n : Nat)) = TL.numL n := by
  unfold tx
  rw [PyData.shown_int]
  exact TL.tl_num n
theorem tx_neg (n : Nat) : tx (.int (Int.negSucc n)) = 45 :: TL.numL (n + 1) := by
  unfold tx
  rw [PyData.shown_int]
  have e : (toString (Int.negSucc n) : String) = "-" ++ toString ((n + 1 : Nat) : Int) := rfl
  have h := TL.tl_num (n + 1)
  rw [TL.tl_ofString] at h
  show TL.tl (Str.ofString (toString (Int.negSucc n))) = _
  rw [TL.tl_ofString, e, String.toList_append, List.map_append, h]
  rfl
theorem tx_form {d : D} (h : Sm d) : (d = .none ∧ tx d = [78, 111, 110, 101]) ∨ (d = .str "lost" ∧ tx d = [39, 108, 111, 115, 116, 39]) ∨ (∃ n : Nat, d = .int n ∧ tx d = TL.numL n) ∨ ∃ n : Nat, d = .int (Int.negSucc n) ∧ tx d = 45 :: TL.numL (n + 1) := by
  rcases h with rfl | rfl | ⟨i, rfl, _⟩
  · exact .inl ⟨rfl, tx_none⟩
  · exact .inr (.inl ⟨rfl, tx_lost⟩)
  · cases i with
    | ofNat n => exact .inr (.inr (.inl ⟨n, rfl, tx_nat n⟩))
    | negSucc n => exact .inr (.inr (.inr ⟨n, rfl, tx_neg n⟩))
theorem tx_free {d : D} (h : Sm d) : 44 ∉ tx d ∧ 93 ∉ tx d ∧ tx d ≠ [] := by
  rcases tx_form h with ⟨_, e⟩ | ⟨_, e⟩ | ⟨n, _, e⟩ | ⟨n, _, e⟩
  · rw [e]; decide
  · rw [e]; decide
  · rw [e]
    exact ⟨TL.numL_free (.inl (by decide)), TL.numL_free (.inr (by decide)), TL.numL_ne n⟩
  · rw [e]
    refine ⟨fun z => ?_, fun z => ?_, by simp⟩
    · rcases List.mem_cons.mp z with z | z
      · cases z
      · exact TL.numL_free (.inl (by decide)) z
    · rcases List.mem_cons.mp z with z | z
      · cases z
      · exact TL.numL_free (.inr (by decide)) z
theorem numL_head {n c : Nat} {r : List Nat} (h : TL.numL n = c :: r) : 48 ≤ c ∧ c ≤ 57 := by
  refine Classical.byContradiction fun z => ?_
  exact TL.numL_free (n := n) (s := c) (by omega) (by rw [h]; exact List.mem_cons_self)
theorem tx_inj {d e : D} (hd : Sm d) (he : Sm e) (h : tx d = tx e) : d = e := by
  rcases tx_form hd with ⟨r1, e1⟩ | ⟨r1, e1⟩ | ⟨n, r1, e1⟩ | ⟨n, r1, e1⟩ <;> rcases tx_form he with ⟨r2, e2⟩ | ⟨r2, e2⟩ | ⟨m, r2, e2⟩ | ⟨m, r2, e2⟩ <;> rw [e1, e2] at h
  · rw [r1, r2]
  · simp at h
  · have := numL_head h.symm; omega
  · simp at h
  · simp at h
  · rw [r1, r2]
  · have := numL_head h.symm; omega
  · simp at h
  · have := numL_head h; omega
  · have := numL_head h; omega
  · rw [r1, r2, TL.numL_inj h]
  · have := numL_head h; omega
  · simp at h
  · simp at h
  · have := numL_head h.symm; omega
  · rw [r1, r2]
    have h := (List.cons.inj h).2
    have := TL.numL_inj h
    congr 2
    omega
theorem txs_inj : ∀ {xs ys : List D}, (∀ d ∈ xs, Sm d) → (∀ d ∈ ys, Sm d) → xs.map tx = ys.map tx → xs = ys
  | [], [], _, _, _ => rfl
  | [], _ :: _, _, _, h => by simp at h
  | _ :: _, [], _, _, h => by simp at h
  | x :: xs, y :: ys, hx, hy, h => by
    simp only [List.map_cons, List.cons.injEq] at h
    rw [tx_inj (hx x List.mem_cons_self) (hy y List.mem_cons_self) h.1, txs_inj (fun d hd => hx d (List.mem_cons_of_mem _ hd)) (fun d hd => hy d (List.mem_cons_of_mem _ hd)) h.2]
/-- a row's inner text -/
def rc (xs : List D) : List Nat := TL.joinL [44, 32] (xs.map tx)
theorem rc_inj {xs ys : List D} (hx : ∀ d ∈ xs, Sm d) (hy : ∀ d ∈ ys, Sm d) (h : rc xs = rc ys) : xs = ys := by
  have ne : ∀ {z : D} {zs : List D}, Sm z → rc (z :: zs) ≠ [] := fun {z zs} hz q => by
    unfold rc at q
    have := (tx_free hz).2.2
    cases zs with
    | nil => exact this q
    | cons w ws => exact this (List.append_eq_nil_iff.mp q).1
  have sp : ∀ {zs : List D}, (∀ d ∈ zs, Sm d) → zs ≠ [] → TL.spl [44, 32] 0 [] (rc zs) = zs.map tx := fun {zs} hz h0 =>
    TL.spl_join (by simpa using h0) fun p hp => by obtain ⟨d, hd, rfl⟩ := List.mem_map.mp hp; exact (tx_free (hz d hd)).1
  cases xs with
  | nil =>
    cases ys with
    | nil => rfl
    | cons y ys => exact absurd h.symm (ne (hy y List.mem_cons_self))
  | cons x xs =>
    cases ys with
    | nil => exact absurd h (ne (hx x List.mem_cons_self))
    | cons y ys =>
      have a := sp hx (by simp)
      have b := sp hy (by simp)
      rw [h, b] at a
      exact (txs_inj hy hx a).symm
theorem joinL_free {s : Nat} : ∀ {l : List (List Nat)} {c : Nat}, c ∈ TL.joinL [s, 32] l → c = s ∨ c = 32 ∨ ∃ p ∈ l, c ∈ p
  | [], c, h => by cases h
  | [p], c, h => .inr (.inr ⟨p, List.mem_cons_self, h⟩)
  | p :: q :: l, c, h => by
    have h : c ∈ p ++ ([s, 32] ++ TL.joinL [s, 32] (q :: l)) := h
    rcases List.mem_append.mp h with h | h
    · exact .inr (.inr ⟨p, List.mem_cons_self, h⟩)
    · rcases List.mem_append.mp h with h | h
      · simp only [List.mem_cons, List.not_mem_nil, or_false] at h
        exact h.imp id .inl
      · rcases joinL_free h with h | h | ⟨x, hx, hc⟩
        · exact .inl h
        · exact .inr (.inl h)
        · exact .inr (.inr ⟨x, List.mem_cons_of_mem _ hx, hc⟩)
theorem rc_free {xs : List D} (hx : ∀ d ∈ xs, Sm d) : 93 ∉ rc xs := fun h => by
  rcases joinL_free h with h | h | ⟨p, hp, hc⟩
  · cases h
  · cases h
  · obtain ⟨d, hd, rfl⟩ := List.mem_map.mp hp
    exact (tx_free (hx d hd)).2.1 hc
theorem tl_shownAll : ∀ xs : List D, (PyData.shownAll xs).map TL.tl = xs.map tx
  | [] => rfl
  | x :: xs => by rw [PyData.shownAll_cons, List.map_cons, tl_shownAll xs]; rfl
theorem tx_list (xs : List D) : tx (.list xs) = 91 :: (rc xs ++ [93]) := by
  unfold tx rc
  rw [PyData.shown_list]
  show TL.tl (Str.ofString "[" ++ Str.join ", " (PyData.shownAll xs) ++ Str.ofString "]") = _
  rw [TL.tl_append, TL.tl_append, TL.tl_join, tl_shownAll]
  rfl
theorem tx_pair (a b : D) : tx (.tuple [a, b]) = 40 :: (tx a ++ ([44, 32] ++ (tx b ++ [41]))) := by
  unfold tx
  rw [PyData.shown_tuple]
  show TL.tl (Str.ofString "(" ++ Str.join ", " (PyData.shownAll [a, b]) ++ Str.ofString ")") = _
  rw [TL.tl_append, TL.tl_append, TL.tl_join, tl_shownAll]
  show [40] ++ (tx a ++ ([44, 32] ++ tx b)) ++ [41] = _
  simp
  rfl
def TD (rows : List (List D)) (left : List D) : D := .tuple [.list (rows.map .list), .list left]
def bp (xs : List D) : List Nat := 44 :: 32 :: 91 :: rc xs
theorem joinL_rows (sep p : List Nat) : ∀ l : List (List Nat), TL.joinL sep (p :: l) = p ++ (l.map fun x => sep ++ x).flatten
  | [] => by simp [TL.joinL]
  | q :: l => by
    rw [TL.joinL, joinL_rows sep q l]
    simp
theorem spl_rows : ∀ (rs : List (List D)) (Q : List Nat), (∀ r ∈ rs, ∀ d ∈ r, Sm d) → TL.spl [93] 0 [] ((rs.map fun r => bp r ++ [93]).flatten ++ Q) = rs.map bp ++ TL.spl [93] 0 [] Q
  | [], Q, _ => rfl
  | r :: rs, Q, h => by
    have hf : 93 ∉ bp r := fun z => by
      unfold bp at z
      simp only [List.mem_cons] at z
      rcases z with z | z | z | z
      · cases z
      · cases z
      · cases z
      · exact rc_free (h r List.mem_cons_self) z
    have := SX.spl_free (sep := [93]) (p := bp r) ((rs.map fun r => bp r ++ [93]).flatten ++ Q) (by simp) (SX.free_head hf)
    rw [List.map_cons, List.flatten_cons, List.map_cons, List.cons_append, List.append_assoc, List.append_assoc, this, spl_rows rs Q fun x hx => h x (List.mem_cons_of_mem _ hx)]
theorem spl_told (r0 : List D) (rs : List (List D)) (left : List D) (h0 : ∀ d ∈ r0, Sm d) (hr : ∀ r ∈ rs, ∀ d ∈ r, Sm d) (hl : ∀ d ∈ left, Sm d) :
    TL.spl [93] 0 [] (tx (TD (r0 :: rs) left)) = (40 :: 91 :: 91 :: rc r0) :: (rs.map bp ++ [[], bp left, [41]]) := by
  have e : tx (TD (r0 :: rs) left) = (40 :: 91 :: 91 :: rc r0) ++ ([93] ++ ((rs.map fun r => bp r ++ [93]).flatten ++ ([] ++ ([93] ++ (bp left ++ ([93] ++ [41])))))) := by
    unfold TD
    rw [tx_pair, tx_list, tx_list]
    have : rc ((r0 :: rs).map PyData.list) = 91 :: (rc r0 ++ [93]) ++ (rs.map fun r => bp r ++ [93]).flatten := by
      unfold rc
      rw [List.map_cons, List.map_cons, joinL_rows, tx_list, List.map_map, List.map_map]
      congr 2
      exact List.map_congr_left fun r _ => by
        show [44, 32] ++ tx (.list r) = _
        rw [tx_list]
        rfl
    rw [this]
    simp [bp]
  have f0 : 93 ∉ (40 :: 91 :: 91 :: rc r0) := fun z => by
    simp only [List.mem_cons] at z
    rcases z with z | z | z | z
    · cases z
    · cases z
    · cases z
    · exact rc_free h0 z
  have fl : 93 ∉ bp left := fun z => by
    unfold bp at z
    simp only [List.mem_cons] at z
    rcases z with z | z | z | z
    · cases z
    · cases z
    · cases z
    · exact rc_free hl z
  rw [e, SX.spl_free _ (by simp) (SX.free_head f0), spl_rows _ _ hr, SX.spl_free _ (by simp) rfl, SX.spl_free _ (by simp) (SX.free_head fl), TL.spl_last1 (by decide)]
  rfl
theorem told_inj {rows rows' : List (List D)} {left left' : List D} (n1 : rows ≠ []) (n2 : rows' ≠ []) (h1 : ∀ r ∈ rows, ∀ d ∈ r, Sm d) (h2 : ∀ r ∈ rows', ∀ d ∈ r, Sm d) (l1 : ∀ d ∈ left, Sm d) (l2 : ∀ d ∈ left', Sm d) (h : (TD rows left).shown = (TD rows' left').shown) : TD rows left = TD rows' left' := by
  obtain ⟨r0, rs, rfl⟩ := List.exists_cons_of_ne_nil n1
  obtain ⟨r0', rs', rfl⟩ := List.exists_cons_of_ne_nil n2
  have a := spl_told r0 rs left (h1 r0 List.mem_cons_self) (fun r hr => h1 r (List.mem_cons_of_mem _ hr)) l1
  have b := spl_told r0' rs' left' (h2 r0' List.mem_cons_self) (fun r hr => h2 r (List.mem_cons_of_mem _ hr)) l2
  have e : tx (TD (r0 :: rs) left) = tx (TD (r0' :: rs') left') := by unfold tx; rw [h]
  rw [e, b] at a
  obtain ⟨a1, a2⟩ := List.cons.inj a
  have a1 : rc r0' = rc r0 := by simpa using a1
  have hlen : (rs'.map bp).length = (rs.map bp).length := by
    have := congrArg List.length a2
    simp only [List.length_append, List.length_cons, List.length_nil] at this
    omega
  obtain ⟨a3, a4⟩ := List.append_inj a2 hlen
  have a5 : rc left' = rc left := by simpa [bp] using a4
  have e0 := rc_inj (h2 r0' List.mem_cons_self) (h1 r0 List.mem_cons_self) a1
  have el := rc_inj l2 l1 a5
  have er : ∀ {xs ys : List (List D)}, (∀ r ∈ xs, ∀ d ∈ r, Sm d) → (∀ r ∈ ys, ∀ d ∈ r, Sm d) → xs.map bp = ys.map bp → xs = ys := by
    intro xs
    induction xs with
    | nil => intro ys _ _ q; cases ys with | nil => rfl | cons _ _ => simp at q
    | cons x xs ih =>
      intro ys hx hy q
      cases ys with
      | nil => simp at q
      | cons y ys =>
        simp only [List.map_cons, List.cons.injEq] at q
        have q1 : rc x = rc y := by simpa [bp] using q.1
        rw [rc_inj (hx x List.mem_cons_self) (hy y List.mem_cons_self) q1, ih (fun r hr => hx r (List.mem_cons_of_mem _ hr)) (fun r hr => hy r (List.mem_cons_of_mem _ hr)) q.2]
  have ers := er (fun r hr => h2 r (List.mem_cons_of_mem _ hr)) (fun r hr => h1 r (List.mem_cons_of_mem _ hr)) a3
  rw [e0, el, ers]
end K51


namespace K51
open PySem PySem.Spec L2 PyProof.Rows Bv
theorem dNe_sm {xs : List D} (h : ∀ d ∈ xs, Sm d) : dNe (.list xs) (.list []) = .ok (.bool !xs.isEmpty) := by
  have : dEq (.list xs) (.list []) = .ok (.bool xs.isEmpty) := dEq_row fun d hd => by
    have f := fl_sm (h d hd)
    exact ⟨f.nd, f.cl, Nat.le_trans f.dp (by decide)⟩
  unfold dNe
  rw [this]
  rfl
theorem sm_set {xs : List D} (h : ∀ d ∈ xs, Sm d) {y : D} (hy : Sm y) (q : Nat) : ∀ d ∈ xs.set q y, Sm d := fun d hd => by
  rcases List.mem_or_eq_of_mem_set hd with hd | rfl
  · exact h d hd
  · exact hy
theorem sm_imm {xs : List D} (h : ∀ d ∈ xs, Sm d) : immA xs = true := immA_of fun d hd => (h d hd).imm
structure TDok (rows : List (List D)) (left : List D) (b : Nat) : Prop where
  ne : rows ≠ []
  rs : ∀ r ∈ rows, (∀ d ∈ r, Sm d) ∧ r.length ≤ b
  rl : rows.length ≤ b
  ls : ∀ d ∈ left, Sm d
  ll : left.length ≤ b
variable {deeds : List (Option D)} {tries : List Int}
/-! ### what is told, as rows -/
theorem told_ok {s : Sg} (P : Pl deeds tries) (G : Good deeds tries s) : ∃ rows left, told s = TD rows left ∧ TDok rows left 9 := by
  obtain ⟨m0, rest, I⟩ := G
  have dl := P.dl
  have tl := P.tl
  have tS := toldS I
  refine ⟨s.mv.map Mv.told, (s.bx.drop s.far.toNat).take ((max s.near s.far).toNat - s.far.toNat), ?_, ?_, ?_, ?_, fun d hd => I.bs d (List.mem_of_mem_drop (List.mem_of_mem_take hd)), ?_⟩
  · unfold told TD
    rw [List.map_map]
    rfl
  · rw [I.mv]; simp
  · intro r hr
    rw [I.mv] at hr
    rcases List.mem_cons.mp hr with rfl | hr
    · refine ⟨I.own.sm, ?_⟩
      have := I.own.tl
      have := I.own.n1
      omega
    · obtain ⟨m, hm, rfl⟩ := List.mem_map.mp hr
      refine ⟨tS m (by rw [I.mv]; exact List.mem_cons_of_mem _ hm), ?_⟩
      obtain ⟨i, hi⟩ := List.getElem?_of_mem hm
      have hl := (List.getElem?_eq_some_iff.mp hi).1
      have hk : tries[i]? = some (tries[i]'(by rw [← I.rl]; exact hl)) := List.getElem?_eq_getElem _
      have T := I.th i m _ hi hk
      have := P.tk _ (List.mem_of_getElem? hk)
      have := T.tl
      have := T.n1
      omega
  · rw [List.length_map, I.mv, List.length_cons, I.rl]; omega
  · have := I.bl
    rw [List.length_take, List.length_drop]
    omega
theorem sm_eqv {x y : D} (hx : Sm x) (hy : Sm y) (h : PyData.eqv x y = true) : x = y := by
  rcases hx with rfl | rfl | ⟨i, rfl, _⟩ <;> rcases hy with rfl | rfl | ⟨j, rfl, _⟩ <;> simp [PyData.eqv] at h ⊢
  exact h
theorem sms_eqv : ∀ {xs ys : List D}, (∀ d ∈ xs, Sm d) → (∀ d ∈ ys, Sm d) → PyData.eqvAll xs ys = true → xs = ys
  | [], [], _, _, _ => rfl
  | [], _ :: _, _, _, h => by simp [PyData.eqvAll] at h
  | _ :: _, [], _, _, h => by simp [PyData.eqvAll] at h
  | x :: xs, y :: ys, hx, hy, h => by
    simp only [PyData.eqvAll, Bool.and_eq_true] at h
    rw [sm_eqv (hx x List.mem_cons_self) (hy y List.mem_cons_self) h.1, sms_eqv (fun d hd => hx d (List.mem_cons_of_mem _ hd)) (fun d hd => hy d (List.mem_cons_of_mem _ hd)) h.2]
theorem rows_eqv : ∀ {xs ys : List (List D)}, (∀ r ∈ xs, ∀ d ∈ r, Sm d) → (∀ r ∈ ys, ∀ d ∈ r, Sm d) → PyData.eqvAll (xs.map .list) (ys.map .list) = true → xs = ys
  | [], [], _, _, _ => rfl
  | [], _ :: _, _, _, h => by simp [PyData.eqvAll] at h
  | _ :: _, [], _, _, h => by simp [PyData.eqvAll] at h
  | x :: xs, y :: ys, hx, hy, h => by
    simp only [List.map_cons, PyData.eqvAll, PyData.eqv, Bool.and_eq_true] at h
    rw [sms_eqv (hx x List.mem_cons_self) (hy y List.mem_cons_self) h.1, rows_eqv (fun d hd => hx d (List.mem_cons_of_mem _ hd)) (fun d hd => hy d (List.mem_cons_of_mem _ hd)) h.2]
theorem td_eqv {rows rows' : List (List D)} {left left' : List D} {b b' : Nat} (h : TDok rows left b) (h' : TDok rows' left' b') (e : PyData.eqv (TD rows left) (TD rows' left') = true) : TD rows left = TD rows' left' := by
  simp only [TD, PyData.eqv, PyData.eqvAll, Bool.and_eq_true] at e
  rw [rows_eqv (fun r hr => (h.rs r hr).1) (fun r hr => (h'.rs r hr).1) e.1, sms_eqv h.ls h'.ls e.2.1]
theorem td_shp {rows : List (List D)} {left : List D} {b : Nat} (h : TDok rows left b) : shp (TD rows left) = true ∧ PyData.canLay0 (TD rows left) = true := by
  have := shp_told (fun r hr => (h.rs r hr).1) h.ls
  exact ⟨this.1, this.2.1⟩
theorem td_refl {rows : List (List D)} {left : List D} {b : Nat} (h : TDok rows left b) : PyData.eqv (TD rows left) (TD rows left) = true := SeqAt.eqv_refl _ (td_shp h).2
theorem repr_eq {v : D} {t : Str} (h : dRepr [v] = .ok (.str t)) : t = v.shown := by
  rw [dRepr_1] at h
  split at h
  · cases h; rfl
  · cases h
theorem td_repr {rows : List (List D)} {left : List D} (h : TDok rows left 10) : dRepr [TD rows left] = .ok (.str (TD rows left).shown) := by
  obtain ⟨t, e⟩ := repr_told h.rs h.rl h.ls h.ll
  have e' : dRepr [TD rows left] = .ok (.str t) := e
  rw [e', repr_eq e']
theorem TDok.up {rows : List (List D)} {left : List D} {b b' : Nat} (h : TDok rows left b) (hb : b ≤ b') : TDok rows left b' :=
  ⟨h.ne, fun x hx => ⟨(h.rs x hx).1, Nat.le_trans (h.rs x hx).2 hb⟩, Nat.le_trans h.rl hb, h.ls, Nat.le_trans h.ll hb⟩
theorem told_repr {s : Sg} (P : Pl deeds tries) (G : Good deeds tries s) : dRepr [told s] = .ok (.str (told s).shown) := by
  obtain ⟨rows, left, e, h⟩ := told_ok P G
  rw [e]
  exact td_repr (h.up (by decide))
/-! ### the law's own search comes to an end somewhere -/
def IsEnd (deeds : List (Option D)) (tries : List Int) (e : D) : Prop := ∃ s, RS .good deeds tries s ∧ (∀ w, w ≤ tries.length → step .good deeds tries s w = none) ∧ e = told s
theorem lastq (P : Pl deeds tries) {s : Sg} (G : RS .good deeds tries s) : sq tries.length (mtL .good deeds tries) (s.d 8) = [] ↔ ∀ w, w ≤ tries.length → step .good deeds tries s w = none := by
  constructor
  · intro h w hw
    cases e : step .good deeds tries s w with
    | none => rfl
    | some s' =>
      have : s'.d 8 ∈ sq tries.length (mtL .good deeds tries) (s.d 8) := sq_mem.mpr ⟨w, hw, by rw [(mtL_at P G hw).2, e], rfl⟩
      rw [h] at this
      cases this
  · intro h
    apply List.eq_nil_iff_forall_not_mem.mpr
    intro p hp
    obtain ⟨w, hw, rfl, hn⟩ := sq_mem.mp hp
    rw [(mtL_at P G hw).2, h w hw] at hn
    cases hn
theorem some_last (F : FewR deeds tries) (hT : ∀ t, some t ∈ deeds → isI t = true) {E : List (D × D)} {Ls : List D} (h : Lq (GL .good deeds tries) (sq tries.length (mtL .good deeds tries)) ((init tries).d 8) none E [] Ls) : Ls ≠ [] := by
  have key : ∀ (n : Nat) (s : Sg), RS .good deeds tries s → GX deeds tries s → tot deeds tries s ≤ n → s.d 8 ∈ ks E → ∃ d, d ∈ Ls := by
    intro n
    induction n with
    | zero =>
      intro s G X hn hd
      exact ⟨_, (h.last _).mpr ⟨hd, by simp, (lastq F.P G).mpr fun w hw => gx_end F.P hT X hw (by simpa using hn)⟩⟩
    | succ n ih =>
      intro s G X hn hd
      cases hs : sq tries.length (mtL .good deeds tries) (s.d 8) with
      | nil => exact ⟨_, (h.last _).mpr ⟨hd, by simp, hs⟩⟩
      | cons p ps =>
        have hp : p ∈ sq tries.length (mtL .good deeds tries) (s.d 8) := by rw [hs]; exact List.mem_cons_self
        obtain ⟨w, hw, rfl, hn2⟩ := sq_mem.mp hp
        have em := (mtL_at F.P G hw).2
        cases e : step .good deeds tries s w with
        | none => rw [em, e] at hn2; cases hn2
        | some s' =>
          rw [e] at em
          have := gx_tot X e
          refine ih s' (rs_step F.P G hw e) (gx_step F.P hT X hw e) (by omega) ?_
          rcases h.done _ hd with q | q | q
          · cases q
          · cases q
          · rw [← show mtL .good deeds tries (s.d 8) w = s'.d 8 from em]; exact q _ hp
  obtain ⟨d, hd⟩ := key 60 (init tries) (rs_init F.P) (init_gx F.P) (init_tot F.P) h.head
  intro z
  rw [z] at hd
  cases hd
end K51

namespace K51
open PySem PySem.Spec L2 PyProof.Rows Bv
variable {deeds : List (Option D)} {tries : List Int}
/-! ### dicts whose keys are texts -/
structure KI (Q : Str → D → Prop) (n : Nat) (F : List (D × D)) (ks : List Str) : Prop where
  kk : F.map (·.1) = ks.map .str
  nd : ks.Nodup
  vs : ∀ p ∈ F, ∃ t, p.1 = .str t ∧ Q t p.2
  len : F.length ≤ n
theorem KI.kl {Q : Str → D → Prop} {n : Nat} {F : List (D × D)} {ks : List Str} (h : KI Q n F ks) : ks.length = F.length := by
  have := congrArg List.length h.kk
  simpa using this.symm
theorem KI.fm {Q : Str → D → Prop} {n : Nat} {F : List (D × D)} {ks : List Str} (h : KI Q n F ks) : (F.filterMap fun p => keyK p.1).Nodup := by
  have e : (F.filterMap fun p => keyK p.1) = ks.map Sum.inr := by
    have : (F.filterMap fun p => keyK p.1) = (F.map (·.1)).filterMap keyK := by rw [List.filterMap_map]; rfl
    rw [this, h.kk, List.filterMap_map]
    have : (keyK ∘ PyData.str) = fun t => some (Sum.inr t : Key) := rfl
    rw [this, List.filterMap_eq_map']
  rw [e]
  have : ∀ l : List Str, l.Nodup → (l.map (Sum.inr : Str → Key)).Nodup := fun l => by
    induction l with
    | nil => intro _; simp
    | cons a l ih =>
      intro hn
      obtain ⟨n1, n2⟩ := List.nodup_cons.mp hn
      rw [List.map_cons]
      refine List.nodup_cons.mpr ⟨fun z => ?_, ih n2⟩
      obtain ⟨b, hb, e⟩ := List.mem_map.mp z
      cases e
      exact n1 hb
  exact this ks h.nd
theorem KI.look {Q : Str → D → Prop} {n : Nat} {F : List (D × D)} {ks : List Str} (h : KI Q n F ks) {t : Str} (ht : t ∈ ks) : ∃ v, lookK F (.inr t) = some v ∧ Q t v := by
  have ht : PyData.str t ∈ F.map (·.1) := by rw [h.kk]; exact List.mem_map.mpr ⟨t, ht, rfl⟩
  obtain ⟨p, hp, e⟩ := List.mem_map.mp ht
  unfold lookK
  cases q : F.find? fun p => decide (keyK p.1 = some (.inr t)) with
  | none =>
    have := List.find?_eq_none.mp q p hp
    rw [e] at this
    simp [keyK] at this
  | some p' =>
    have m := List.mem_of_find?_eq_some q
    have k := List.find?_some q
    have k := keyK_kD (of_decide_eq_true k)
    obtain ⟨t', a, b⟩ := h.vs p' m
    rw [a] at k
    have k : PyData.str t' = .str t := k
    injection k with k
    subst k
    exact ⟨p'.2, rfl, b⟩
theorem KI.q {Q : Str → D → Prop} {n : Nat} {F : List (D × D)} {ks : List Str} (h : KI Q n F ks) {t : Str} (ht : t ∈ ks) : ∃ v, Q t v := let ⟨v, _, q⟩ := h.look ht; ⟨v, q⟩
theorem ki_put {Q : Str → D → Prop} {n : Nat} {F : List (D × D)} {ks : List Str} {t : Str} {v : D} (h : KI Q n F ks) (hv : Q t v) : ∃ ks', KI Q (n + 1) (storeK F (.inr t) v) ks' ∧ t ∈ ks' ∧ ∀ x ∈ ks, x ∈ ks' := by
  unfold storeK
  by_cases hs : (lookK F (.inr t)).isSome = true
  · rw [if_pos hs]
    have em : (F.map fun p => if keyK p.1 = some (.inr t) then (p.1, v) else p).map (·.1) = F.map (·.1) := by
      rw [List.map_map]
      refine List.map_congr_left fun p _ => ?_
      simp only [Function.comp]
      split <;> rfl
    refine ⟨ks, ⟨by rw [em, h.kk], h.nd, fun p hp => ?_, by rw [List.length_map]; have := h.len; omega⟩, ?_, fun x hx => hx⟩
    · obtain ⟨q, hq, rfl⟩ := List.mem_map.mp hp
      split
      · rename_i hk'
        exact ⟨t, keyK_kD hk', hv⟩
      · exact h.vs q hq
    · unfold lookK at hs
      rw [Option.isSome_map, List.find?_isSome] at hs
      obtain ⟨p, hp, q⟩ := hs
      have := keyK_kD (of_decide_eq_true q)
      have m : PyData.str t ∈ F.map (·.1) := List.mem_map.mpr ⟨p, hp, this⟩
      rw [h.kk] at m
      obtain ⟨t', m1, m2⟩ := List.mem_map.mp m
      injection m2 with m2
      rw [← m2]; exact m1
  · rw [if_neg hs]
    have nt : t ∉ ks := fun z => by
      obtain ⟨v', e, _⟩ := h.look z
      rw [e] at hs
      exact hs rfl
    refine ⟨ks ++ [t], ⟨by rw [List.map_append, h.kk, List.map_append]; rfl, List.nodup_append.mpr ⟨h.nd, by simp, fun a ha b hb => by rw [List.mem_singleton.mp hb]; exact fun z => nt (z ▸ ha)⟩, fun p hp => ?_, by rw [List.length_append, List.length_singleton]; have := h.len; omega⟩, by simp, fun x hx => List.mem_append.mpr (.inl hx)⟩
    rcases List.mem_append.mp hp with hp | hp
    · exact h.vs p hp
    · rw [List.mem_singleton.mp hp]; exact ⟨t, rfl, hv⟩
/-- just the texts of all that can be told -/
def AllT (deeds : List (Option D)) (tries : List Int) (ks : List Str) : Prop := ∀ t, t ∈ ks ↔ ∃ e, IsEnd deeds tries e ∧ t = e.shown
theorem allT_eq {ks ks' : List Str} (n1 : ks.Nodup) (n2 : ks'.Nodup) (h1 : AllT deeds tries ks) (h2 : AllT deeds tries ks') : sortS ks = sortS ks' :=
  sortS_eq ((List.perm_ext_iff_of_nodup n1 n2).mpr fun t => (h1 t).trans (h2 t).symm)
/-! ### endings -/
def ebody : Env' → Res := (dputT 3 2 [] (cal dRepr (acons (cal f_told_by (acons (var 4) anil)) anil)) (cal f_told_by (acons (var 4) anil)))
theorem ends_def : m_endings = sseq (drp [] (cal f_need_size (acons (var 0) anil))) (sseq (untup [1, 2] [] (cal f_gone_through (acons (var 0) (acons (cst (.str "good")) anil)))) (sseq (asgDT 3 2) (sseq (sfor [] (bName 4) (var 2) ebody)
    (retMv 3 5 2 (lstD (calF dSortedA (acons (var 3) anil)))))))  := rfl
theorem takeK_map {F : List (D × D)} : ∀ {ts : List Str}, (∀ t ∈ ts, ∃ v, lookK F (.inr t) = some v) → takeK F (ts.map .str) = some (ts.map fun t => (lookK F (.inr t)).getD .none)
  | [], _ => rfl
  | t :: ts, h => by
    obtain ⟨v, e⟩ := h t List.mem_cons_self
    rw [List.map_cons, List.map_cons]
    unfold takeK
    have : keyK (.str t) = some (.inr t) := rfl
    simp only [this, e, takeK_map fun x hx => h x (List.mem_cons_of_mem _ hx)]
    rfl
theorem endings_at (F : FewR deeds tries) : ∃ (es : List D) (ks : List Str), f_endings [plD deeds tries] = .ok (.list es) ∧ (∀ e ∈ es, IsEnd deeds tries e) ∧ es.map PyData.shown = sortS ks ∧ ks.Nodup ∧ AllT deeds tries ks ∧ es.length ≤ 16000000 := by
  have S := sr_at F .good
  obtain ⟨E, Ls, e1, h⟩ := gone_at S
  have e1 : f_gone_through [plD deeds tries, .str "good"] = .ok (.tuple [.dict ((.none, .int 1) :: E), .list Ls]) := e1
  have hlen := h.len S
  have few := S.few
  have hnum := h.num
  simp only [List.length_nil] at hnum
  have hL : ∀ d ∈ Ls, ∃ s, RS .good deeds tries s ∧ d = s.d deeds.length ∧ ∀ w, w ≤ tries.length → step .good deeds tries s w = none := fun d hd => by
    obtain ⟨a, _, c⟩ := (h.last d).mp hd
    obtain ⟨s, G, rfl⟩ := h.keys d a
    exact ⟨s, G, rfl, last_done F G c⟩
  obtain ⟨ρ', e2, Fd, ks, a4, rfl, hF, hA⟩ := forL_ix (b := bName 4) (g := ebody) (xs := Ls) (k := 0) (ρ := [.fz (plD deeds tries), .fz (.dict ((.none, .int 1) :: E)), .fz (.list Ls), .ow 3 (.dict [(.none, .int 0)]), .un, .un])
    (fun k ρ => ∃ Fd ks a4, ρ = [.fz (plD deeds tries), .fz (.dict ((.none, .int 1) :: E)), .fz (.list Ls), .ow 3 (.dict ((.none, .int 0) :: Fd)), a4, .un] ∧ KI (fun t v => IsEnd deeds tries v ∧ t = v.shown) k Fd ks ∧ ∀ d ∈ Ls.take k, ∃ s, RS .good deeds tries s ∧ d = s.d deeds.length ∧ (told s).shown ∈ ks)
    ⟨[], [], .un, rfl, ⟨rfl, by simp, by simp, by simp⟩, by simp⟩ (by
      rintro i d hi ρ ⟨Fd, ks, a4, rfl, hF, hA⟩
      rw [Nat.zero_add] at hF hA ⊢
      obtain ⟨s, G, rfl, hD⟩ := hL d (List.mem_of_getElem? hi)
      have hi2 := (List.getElem?_eq_some_iff.mp hi).1
      have len := hF.len
      have fm := hF.fm
      obtain ⟨m0, rest, I, _⟩ := id G
      have et := told_repr F.P G.good
      have etb := told_by_at F.P I
      obtain ⟨ks', k1, k2, k3⟩ := ki_put hF (t := (told s).shown) (v := told s) ⟨⟨s, G, hD, rfl⟩, rfl⟩
      refine ⟨_, [.fz (plD deeds tries), .fz (.dict ((.none, .int 1) :: E)), .fz (.list Ls), .ow 3 (.dict ((.none, .int 0) :: storeK Fd (.inr (told s).shown) (told s))), .fz (s.d deeds.length), .un], rfl, ?_, _, _, _, rfl, k1, fun d hd => ?_⟩
      · have him : imm (told s) = false := rfl
        have hkk : keyK (.str (told s).shown) = some (.inr (told s).shown) := rfl
        have hfs : Fd.length < 16000000 := by omega
        clear hL hA k1 k2 k3
        generalize (told s).shown = t at *
        generalize told s = T at *
        generalize s.d deeds.length = d at *
        generalize plD deeds tries = pl at *
        simp -implicitDefEqProofs [ebody, dputT, etb, et, hkk, fm, hfs]
      · rw [List.take_add_one, hi] at hd
        rcases List.mem_append.mp hd with hd | hd
        · obtain ⟨s', G', e', q⟩ := hA d hd
          exact ⟨s', G', e', k3 _ q⟩
        · have : d = s.d deeds.length := by simpa using hd
          exact ⟨s, G, this, k2⟩)
  rw [Nat.zero_add] at hF hA
  rw [List.take_length] at hA
  have hFl := hF.len
  have hkl := hF.kl
  have hso := dSortedA_d ks Fd hF.kk
  have hsl : (sortS ks).length = Fd.length := by rw [(sortS_perm ks).length_eq, hkl]
  have hlk : ∀ t ∈ sortS ks, ∃ v, lookK Fd (.inr t) = some v ∧ (IsEnd deeds tries v ∧ t = v.shown) := fun t ht => hF.look ((sortS_perm ks).mem_iff.mp ht)
  have htk := takeK_map (F := Fd) (ts := sortS ks) fun t ht => let ⟨v, e, _⟩ := hlk t ht; ⟨v, e⟩
  have hnk : (((sortS ks).map PyData.str).filterMap keyK).Nodup := by
    have e := (hF.fm)
    have e2 : (Fd.filterMap fun p => keyK p.1) = (ks.map PyData.str).filterMap keyK := by rw [← hF.kk, List.filterMap_map]; rfl
    rw [e2] at e
    exact (((sortS_perm ks).map PyData.str).filterMap keyK).nodup_iff.mpr e
  refine ⟨(sortS ks).map fun t => (lookK Fd (.inr t)).getD .none, ks, ?_, fun e he => ?_, ?_, hF.nd, fun t => ⟨fun ht => ?_, fun ⟨e, he, et⟩ => ?_⟩, by rw [List.length_map]; omega⟩
  · unfold f_endings
    rw [ends_def]
    have st1 : drp [] (cal f_need_size (acons (var 0) anil)) (entry 5 [plD deeds tries]) = .nx [.fz (plD deeds tries), .un, .un, .un, .un, .un] := by
      simp -implicitDefEqProofs [need_at F]
    have st2 : untup [1, 2] [] (cal f_gone_through (acons (var 0) (acons (cst (.str "good")) anil))) [.fz (plD deeds tries), .un, .un, .un, .un, .un] = .nx [.fz (plD deeds tries), .fz (.dict ((.none, .int 1) :: E)), .fz (.list Ls), .un, .un, .un] := by
      simp -implicitDefEqProofs [untup_def, e1]
    have st3 : asgDT 3 2 [.fz (plD deeds tries), .fz (.dict ((.none, .int 1) :: E)), .fz (.list Ls), .un, .un, .un] = .nx [.fz (plD deeds tries), .fz (.dict ((.none, .int 1) :: E)), .fz (.list Ls), .ow 3 (.dict [(.none, .int 0)]), .un, .un] := by
      simp -implicitDefEqProofs [asgDT]
    have st4 : sfor [] (bName 4) (var 2) ebody [.fz (plD deeds tries), .fz (.dict ((.none, .int 1) :: E)), .fz (.list Ls), .ow 3 (.dict [(.none, .int 0)]), .un, .un] = .nx [.fz (plD deeds tries), .fz (.dict ((.none, .int 1) :: E)), .fz (.list Ls), .ow 3 (.dict ((.none, .int 0) :: Fd)), a4, .un] := by
      rw [sfor_def]
      simp -implicitDefEqProofs
      exact e2
    rw [sseq_nx st1, sseq_nx st2, sseq_nx st3, sseq_nx st4]
    have hl : ((sortS ks).map PyData.str).length ≤ 16000000 := by rw [List.length_map]; omega
    generalize ((sortS ks).map fun t => (lookK Fd (.inr t)).getD .none) = ys at *
    generalize (sortS ks).map PyData.str = T at *
    clear e2 hA hF hL hlk
    simp -implicitDefEqProofs [retMv, hso, hl, hnk, htk]
  · obtain ⟨t, ht, rfl⟩ := List.mem_map.mp he
    obtain ⟨v, e, q, _⟩ := hlk t ht
    rw [e]; exact q
  · rw [List.map_map]
    have : (sortS ks).map (PyData.shown ∘ fun t => (lookK Fd (.inr t)).getD .none) = (sortS ks).map id := List.map_congr_left fun t ht => by
      obtain ⟨v, e, _, q⟩ := hlk t ht
      simp only [Function.comp, e, Option.getD_some, id]
      exact q.symm
    rw [this, List.map_id]
  · obtain ⟨v, q⟩ := hF.q ht
    exact ⟨v, q⟩
  · obtain ⟨s, G, hD, rfl⟩ := he
    have hd := rs_in F h G
    have hl : s.d deeds.length ∈ Ls := (h.last _).mpr ⟨hd, by simp, by
      apply List.eq_nil_iff_forall_not_mem.mpr
      intro p hp
      obtain ⟨w, s', hw, e, _⟩ := (succ_iff F.P G).mp hp
      rw [hD w hw] at e
      cases e⟩
    obtain ⟨s2, G2, ed, q⟩ := hA _ hl
    obtain ⟨_, _, I, _⟩ := id G
    obtain ⟨_, _, I2, _⟩ := id G2
    have a1 := told_by_at F.P I
    have a2 := told_by_at F.P I2
    rw [ed, a2] at a1
    have : told s2 = told s := by injection a1
    rw [et, ← this]; exact q
end K51

namespace K51
open PySem PySem.Spec L2 PyProof.Rows Bv
/-! ### how often a sign stands in a text -/
theorem count_spl (x y : Str) (hy : TL.tl y ≠ []) : Txt.count x y = ((TL.spl (TL.tl y) 0 [] (TL.tl x)).length : Int) - 1 := by
  obtain ⟨f, g, hn⟩ := PySem.StrLaws.occ_tight x y (TL.len1 hy)
  have key := TL.parts_spl hy _ 0 f (Nat.zero_le _) g hn
  rw [List.drop_zero] at key
  have := congrArg List.length key
  rw [← this]
  unfold Txt.count
  rw [List.length_map]
  have len : ∀ (w : Nat) (cuts : List Nat) (a : Nat), (PySem.StrLaws.partsFrom x w a cuts).length = cuts.length + 1 := fun w cuts => by
    induction cuts with
    | nil => intro a; rfl
    | cons c cuts ih =>
      intro a
      unfold PySem.StrLaws.partsFrom
      rw [List.length_cons, ih, List.length_cons]
  rw [len]
  omega
theorem spl_count (c : Nat) : ∀ (n : Nat) (L : List Nat), L.length ≤ n → (TL.spl [c] 0 [] L).length = L.count c + 1
  | n, L, h => by
    by_cases m : c ∈ L
    · obtain ⟨p, q, e, hp⟩ := List.eq_append_cons_of_mem m
      cases n with
      | zero => rw [e] at h; simp at h
      | succ n =>
        have e2 : L = p ++ ([c] ++ q) := by rw [e]; rfl
        rw [e2, SX.spl_free q (by simp) (SX.free_head hp), List.length_cons, spl_count c n q (by rw [e] at h; simp at h; omega)]
        simp [List.count_append, List.count_eq_zero.mpr hp]
        try omega
    · rw [TL.spl_last1 m, List.count_eq_zero.mpr m]
      rfl
theorem count_sign {x y : Str} {c : Nat} (hy : TL.tl y = [c]) : Txt.count x y = ((TL.tl x).count c : Nat) := by
  rw [count_spl x y (by rw [hy]; simp), hy, spl_count c _ _ (Nat.le_refl _)]
  omega
theorem joinL_count {c : Nat} (h1 : c ≠ 44) (h2 : c ≠ 32) : ∀ ps : List (List Nat), (TL.joinL [44, 32] ps).count c = (ps.map (·.count c)).sum
  | [] => rfl
  | [p] => by simp [TL.joinL]
  | p :: q :: ps => by
    show (p ++ ([44, 32] ++ TL.joinL [44, 32] (q :: ps))).count c = _
    have : [44, 32].count c = 0 := List.count_eq_zero.mpr (by simp [h1, h2])
    rw [List.count_append, List.count_append, joinL_count h1 h2 (q :: ps), this]
    simp only [List.map_cons, List.sum_cons]
    omega
def cc (c : Nat) (d : D) : Nat := (tx d).count c
theorem cc_list {c : Nat} (h1 : c ≠ 44) (h2 : c ≠ 32) (h3 : c ≠ 91) (h4 : c ≠ 93) (xs : List D) : cc c (.list xs) = (xs.map (cc c)).sum := by
  unfold cc
  rw [tx_list, List.count_cons, List.count_append]
  unfold rc
  rw [joinL_count h1 h2, List.map_map]
  have e1 : [93].count c = 0 := List.count_eq_zero.mpr (by simp [h4])
  have e2 : (91 == c) = false := by simpa using Ne.symm h3
  rw [e1, e2]
  simp [Function.comp_def]
theorem cc_sm {c : Nat} (hc : c = 120 ∨ c = 121) {d : D} (h : Sm d) : cc c d = 0 := by
  unfold cc
  refine List.count_eq_zero.mpr fun z => ?_
  rcases tx_form h with ⟨_, e⟩ | ⟨_, e⟩ | ⟨n, _, e⟩ | ⟨n, _, e⟩ <;> rw [e] at z
  · rcases hc with rfl | rfl <;> simp at z
  · rcases hc with rfl | rfl <;> simp at z
  · exact TL.numL_free (.inr (by omega)) z
  · rcases List.mem_cons.mp z with z | z
    · omega
    · exact TL.numL_free (.inr (by omega)) z
theorem cc_x (c : Nat) (hc : c = 120 ∨ c = 121) : cc c (.str "x") = if c = 120 then 1 else 0 := by
  have e : tx (.str "x") = [39, 120, 39] := by kernel_rfl
  unfold cc
  rw [e]
  rcases hc with rfl | rfl <;> decide
theorem cc_y (c : Nat) (hc : c = 120 ∨ c = 121) : cc c (.str "y") = if c = 121 then 1 else 0 := by
  have e : tx (.str "y") = [39, 121, 39] := by kernel_rfl
  unfold cc
  rw [e]
  rcases hc with rfl | rfl <;> decide
theorem cc_sms {c : Nat} (hc : c = 120 ∨ c = 121) {xs : List D} (h : ∀ d ∈ xs, Sm d) : (xs.map (cc c)).sum = 0 := by
  induction xs with
  | nil => rfl
  | cons x xs ih => rw [List.map_cons, List.sum_cons, cc_sm hc (h x List.mem_cons_self), ih fun d hd => h d (List.mem_cons_of_mem _ hd)]
theorem cc_row {c : Nat} (hc : c = 120 ∨ c = 121) {xs : List D} (h : ∀ d ∈ xs, Sm d) : cc c (.list xs) = 0 := by
  rw [cc_list (by omega) (by omega) (by omega) (by omega), cc_sms hc h]
theorem cc_set {c : Nat} (hc : c = 120 ∨ c = 121) {y : D} : ∀ {rows : List (List D)} {p : Nat}, (∀ r ∈ rows, ∀ d ∈ r, Sm d) → p < rows.length → ((rows.set p (rows.getD p [] ++ [y])).map fun r => cc c (.list r)).sum = cc c y
  | [], p, _, hp => by simp at hp
  | r :: rows, 0, h, _ => by
    have e0 : (rows.map fun r => cc c (.list r)).sum = 0 := by
      have : ∀ l : List (List D), (∀ r ∈ l, ∀ d ∈ r, Sm d) → (l.map fun r => cc c (.list r)).sum = 0 := fun l => by
        induction l with
        | nil => intro _; rfl
        | cons x l ih => intro hl; rw [List.map_cons, List.sum_cons, cc_row hc (hl x List.mem_cons_self), ih fun r hr => hl r (List.mem_cons_of_mem _ hr)]
      exact this rows fun r hr => h r (List.mem_cons_of_mem _ hr)
    simp only [List.set_cons_zero, List.getD_cons_zero, List.map_cons, List.sum_cons, e0]
    rw [cc_list (by omega) (by omega) (by omega) (by omega), List.map_append, List.sum_append, cc_sms hc (h r List.mem_cons_self)]
    simp
  | r :: rows, p + 1, h, hp => by
    simp only [List.set_cons_succ, List.getD_cons_succ, List.map_cons, List.sum_cons]
    rw [cc_row hc (h r List.mem_cons_self), cc_set hc (fun r hr => h r (List.mem_cons_of_mem _ hr)) (by simpa using hp)]
    omega
/-! ### rows with an x or y among them are told as texts -/
def Sy (d : D) : Prop := Sm d ∨ d = .str "x" ∨ d = .str "y"
theorem sy_all {xs : List D} (h : ∀ d ∈ xs, Sy d) : nodictA xs = true ∧ PyData.showableAll xs = true ∧ PyData.depthAll xs = 0 ∧ PyData.leavesShortAll 110 xs = true ∧ PyData.weightAll xs ≤ 111 * xs.length := by
  induction xs with
  | nil => exact ⟨rfl, rfl, rfl, rfl, Nat.le_refl _⟩
  | cons d xs ih =>
    obtain ⟨h1, h2, h3, h4, h5⟩ := ih fun x hx => h x (List.mem_cons_of_mem _ hx)
    have hd : nodictA [d] = true ∧ PyData.showableAll [d] = true ∧ PyData.depthAll [d] = 0 ∧ PyData.leavesShortAll 110 [d] = true ∧ PyData.weightAll [d] ≤ 111 := by
      rcases h d List.mem_cons_self with q | rfl | rfl
      · exact sm_all (xs := [d]) fun x hx => by rw [List.mem_singleton.mp hx]; exact q
      · exact ⟨rfl, rfl, rfl, by decide +kernel, by decide +kernel⟩
      · exact ⟨rfl, rfl, rfl, by decide +kernel, by decide +kernel⟩
    obtain ⟨k1, k2, k3, k4, k5⟩ := hd
    simp only [nodictA, PyData.showableAll, PyData.depthAll, PyData.leavesShortAll, PyData.weightAll, Bool.and_true] at k1 k2 k3 k4 k5
    refine ⟨by simp [nodictA, k1, h1], by simp [PyData.showableAll, k2, h2], by simp only [PyData.depthAll]; omega, by simp [PyData.leavesShortAll, k4, h4], ?_⟩
    simp only [PyData.weightAll, List.length_cons]
    omega
theorem sy_rows {xss : List (List D)} (h : ∀ xs ∈ xss, (∀ d ∈ xs, Sy d) ∧ xs.length ≤ 10) : nodictA (xss.map .list) = true ∧ PyData.showableAll (xss.map .list) = true ∧ PyData.depthAll (xss.map .list) ≤ 1 ∧ PyData.leavesShortAll 110 (xss.map .list) = true ∧ PyData.weightAll (xss.map .list) ≤ 1111 * xss.length := by
  induction xss with
  | nil => exact ⟨rfl, rfl, Nat.zero_le _, rfl, Nat.le_refl _⟩
  | cons xs xss ih =>
    obtain ⟨h1, h2, h3, h4, h5⟩ := ih fun x hx => h x (List.mem_cons_of_mem _ hx)
    obtain ⟨hx, hl⟩ := h xs List.mem_cons_self
    obtain ⟨g1, g2, g3, g4, g5⟩ := sy_all hx
    refine ⟨by simp [nodictA, nodict, g1, h1], by simp [PyData.showableAll, PyData.showable, g2, h2], ?_, by simp [PyData.leavesShortAll, PyData.leavesShort, g4, h4], ?_⟩
    · simp only [List.map_cons, PyData.depthAll, PyData.depth, g3]
      omega
    · simp only [List.map_cons, PyData.weightAll, PyData.weight, List.length_cons]
      omega
theorem repr_yrows {xss : List (List D)} (h : ∀ xs ∈ xss, (∀ d ∈ xs, Sy d) ∧ xs.length ≤ 10) (hl : xss.length ≤ 10) : dRepr [.list (xss.map .list)] = .ok (.str (PyData.list (xss.map .list)).shown) := by
  obtain ⟨g1, g2, g3, g4, g5⟩ := sy_rows h
  rw [dRepr_1, if_pos]
  have := PyData.shown_le 110 (by decide) (.list (xss.map .list)) (by simpa [PyData.leavesShort] using g4)
  simp only [PyData.weight] at this
  exact ⟨by simpa [nodict] using g1, by simpa [PyData.showable] using g2, by simp only [PyData.depth]; omega, by omega⟩
theorem repr_ytold {xss : List (List D)} {ys : List D} (h : ∀ xs ∈ xss, (∀ d ∈ xs, Sy d) ∧ xs.length ≤ 10) (hl : xss.length ≤ 10) (h2 : ∀ d ∈ ys, Sy d) (hl2 : ys.length ≤ 10) : dRepr [TD xss ys] = .ok (.str (TD xss ys).shown) := by
  obtain ⟨g1, g2, g3, g4, g5⟩ := sy_rows h
  obtain ⟨k1, k2, k3, k4, k5⟩ := sy_all h2
  unfold TD
  rw [dRepr_1, if_pos]
  have := PyData.shown_le 110 (by decide) (.tuple [.list (xss.map .list), .list ys]) (by simp [PyData.leavesShort, PyData.leavesShortAll, g4, k4])
  simp only [PyData.weight, PyData.weightAll] at this
  exact ⟨by simp [nodict, nodictA, g1, k1], by simp [PyData.showable, PyData.showableAll, g2, k2], by simp only [PyData.depth, PyData.depthAll, k3]; omega, by omega⟩
theorem cc_TD {c : Nat} (hc : c = 120 ∨ c = 121) (rows : List (List D)) (left : List D) : cc c (TD rows left) = (rows.map fun r => cc c (.list r)).sum + (left.map (cc c)).sum := by
  have h1 : c ≠ 44 := by omega
  have h2 : c ≠ 32 := by omega
  have e1 := cc_list (c := c) h1 h2 (by omega) (by omega) (rows.map PyData.list)
  have e2 := cc_list (c := c) h1 h2 (by omega) (by omega) left
  rw [List.map_map] at e1
  have e : cc c (TD rows left) = cc c (.list (rows.map PyData.list)) + cc c (.list left) := by
    unfold cc TD
    rw [tx_pair]
    simp only [List.count_cons, List.count_append, List.count_nil]
    have q1 : (40 == c) = false := by rcases hc with rfl | rfl <;> rfl
    have q2 : (41 == c) = false := by rcases hc with rfl | rfl <;> rfl
    have q3 : (44 == c) = false := by rcases hc with rfl | rfl <;> rfl
    have q4 : (32 == c) = false := by rcases hc with rfl | rfl <;> rfl
    simp [q1, q2, q3, q4]
  rw [e, e1, e2]
  rfl
/-- an x in one of the rows, a y in what is left: each stands once in the text -/
theorem once_at {rows : List (List D)} {left : List D} {p : Nat} (h : TDok rows left 9) (hp : p < rows.length) :
    (∃ a : Str, dRepr [.list ((rows.set p (rows.getD p [] ++ [.str "x"])).map .list)] = .ok (.str a) ∧ Txt.count a "x" = 1) ∧
    (∃ b : Str, dRepr [TD (rows.set p (rows.getD p [] ++ [.str "x"])) (left ++ [.str "y"])] = .ok (.str b) ∧ Txt.count b "y" = 1) := by
  have hr : ∀ r ∈ rows.set p (rows.getD p [] ++ [.str "x"]), (∀ d ∈ r, Sy d) ∧ r.length ≤ 10 := fun r hr => by
    rcases List.mem_or_eq_of_mem_set hr with hr | rfl
    · exact ⟨fun d hd => .inl ((h.rs r hr).1 d hd), Nat.le_trans (h.rs r hr).2 (by decide)⟩
    · have hm : rows.getD p [] ∈ rows := by
        rw [List.getD_eq_getElem?_getD, List.getElem?_eq_getElem hp, Option.getD_some]
        exact List.getElem_mem hp
      obtain ⟨a, b⟩ := h.rs _ hm
      refine ⟨fun d hd => ?_, by rw [List.length_append]; simp only [List.length_cons, List.length_nil]; omega⟩
      rcases List.mem_append.mp hd with hd | hd
      · exact .inl (a d hd)
      · exact .inr (.inl (List.mem_singleton.mp hd))
  have hl : ∀ d ∈ left ++ [.str "y"], Sy d := fun d hd => by
    rcases List.mem_append.mp hd with hd | hd
    · exact .inl (h.ls d hd)
    · exact .inr (.inr (List.mem_singleton.mp hd))
  have rl := h.rl
  have ll := h.ll
  have tx_ : TL.tl ("x" : Str) = [120] := by kernel_rfl
  have ty_ : TL.tl ("y" : Str) = [121] := by kernel_rfl
  refine ⟨⟨_, repr_yrows hr (by rw [List.length_set]; omega), ?_⟩, ⟨_, repr_ytold hr (by rw [List.length_set]; omega) hl (by rw [List.length_append]; simp only [List.length_cons, List.length_nil]; omega), ?_⟩⟩
  · rw [count_sign tx_]
    have e := cc_list (c := 120) (by decide) (by decide) (by decide) (by decide) ((rows.set p (rows.getD p [] ++ [.str "x"])).map PyData.list)
    rw [List.map_map] at e
    have e2 := cc_set (c := 120) (.inl rfl) (y := .str "x") (fun r hr => (h.rs r hr).1) hp
    have e3 : cc 120 (.list ((rows.set p (rows.getD p [] ++ [.str "x"])).map PyData.list)) = 1 := by
      rw [e]
      exact e2.trans (cc_x 120 (.inl rfl))
    have e4 : (TL.tl (PyData.list ((rows.set p (rows.getD p [] ++ [.str "x"])).map PyData.list)).shown).count 120 = 1 := e3
    rw [e4]
    rfl
  · rw [count_sign ty_]
    have e := cc_TD (c := 121) (.inr rfl) (rows.set p (rows.getD p [] ++ [.str "x"])) (left ++ [.str "y"])
    have e2 := cc_set (c := 121) (.inr rfl) (y := .str "x") (fun r hr => (h.rs r hr).1) hp
    rw [e2, cc_x 121 (.inr rfl), List.map_append, List.sum_append, cc_sms (.inr rfl) h.ls] at e
    have e3 : cc 121 (TD (rows.set p (rows.getD p [] ++ [.str "x"])) (left ++ [.str "y"])) = 1 := by
      rw [e]
      simp [cc_y 121 (.inr rfl)]
    have e4 : (TL.tl (TD (rows.set p (rows.getD p [] ++ [.str "x"])) (left ++ [.str "y"])).shown).count 121 = 1 := e3
    rw [e4]
    rfl
end K51

namespace K51
open PySem PySem.Spec L2 PyProof.Rows Bv
def SmI (d : D) : Prop := ∃ i : Int, d = .int i ∧ i.natAbs < 2 ^ 101
theorem SmI.sm {d : D} (h : SmI d) : Sm d := .inr (.inr h)
theorem SmI.isI {d : D} (h : SmI d) : isI d = true := by obtain ⟨i, rfl, _⟩ := h; rfl
theorem pbody_int {ns : List Int} {tr : D} {deeds : List (Option D)} {i : Nat} {b5 b6 b7 b8 : Sl} {q1 : D} (hN : Ns ns) (hl : 9 ≤ ns.length) (hi : i < 6) (hd : deeds.length = i) :
    ∃ (x : Option D) (c5 c6 c7 c8 : Sl), pbody [.fz (.list (ns.map .int)), .fz q1, .fz tr, .ow 1 (.list (deeds.map dd)), .fz (.int (i : Nat)), b5, b6, b7, b8] =
      .nx [.fz (.list (ns.map .int)), .fz q1, .fz tr, .ow 1 (.list ((deeds ++ [x]).map dd)), .fz (.int (i : Nat)), c5, c6, c7, c8] ∧ ∀ t, x = some t → SmI t := by
  have get : ∀ j : Int, 0 ≤ j → j < 9 → ∃ v, ixD (ns.map .int) j = .ok (.int v) ∧ 0 ≤ v ∧ v < 2 ^ 30 := fun j h0 h1 =>
    int_of (fun v => 0 ≤ v ∧ v < 2 ^ 30) h0 (by rw [List.length_map]; omega) fun d hd => by
      obtain ⟨v, hv, rfl⟩ := List.mem_map.mp hd
      exact ⟨v, rfl, hN v hv⟩
  obtain ⟨one, g1, o0, o1⟩ := get (2 + (i : Nat)) (by omega) (by omega)
  obtain ⟨s1, g2, s0, s1'⟩ := get 1 (by decide) (by decide)
  have m1 : dDiv (.int one) (.int 6) = .ok (.int (one / 6)) := dDiv_ok (by decide) (by decide)
  have m2 : dMod (.int (one / 6)) (.int 12) = .ok (.int (one / 6 % 12)) := dMod_ok (by decide)
  have m3 : dMod (.int s1) (.int 7) = .ok (.int (s1 % 7)) := dMod_ok (by decide)
  have m4 : dDiv (.int one) (.int 72) = .ok (.int (one / 72)) := dDiv_ok (by decide) (by decide)
  have m5 : dMod (.int (one / 72)) (.int 5) = .ok (.int (one / 72 % 5)) := dMod_ok (by decide)
  have m6 : dMod (.int (one / 6)) (.int 3) = .ok (.int (one / 6 % 3)) := dMod_ok (by decide)
  have m7 : dMod (.int (one / 6)) (.int 4) = .ok (.int (one / 6 % 4)) := dMod_ok (by decide)
  have m8 : dDiv (.int (i : Nat)) (.int 3) = .ok (.int ((i : Int) / 3)) := dDiv_ok (by decide) (by decide)
  have m9 : dMod (.int (one + (i : Int) / 3)) (.int 3) = .ok (.int ((one + (i : Int) / 3) % 3)) := dMod_ok (by decide)
  have p1 : dPow (.int 10) (.int 9) = .ok (.int ((10 : Int) ^ (9 : Int).toNat)) := dPow_ok (by decide) (by decide) (by decide)
  have p2 : dPow (.int 10) (.int 30) = .ok (.int ((10 : Int) ^ (30 : Int).toNat)) := dPow_ok (by decide) (by decide) (by decide)
  have p3 : dPow (.int 10) (.int 29) = .ok (.int ((10 : Int) ^ (29 : Int).toNat)) := dPow_ok (by decide) (by decide) (by decide)
  have b9 : (10 : Int) ^ (9 : Int).toNat = 1000000000 := by decide
  have b30 : (10 : Int) ^ (30 : Int).toNat = 1000000000000000000000000000000 := by decide
  have b29 : (10 : Int) ^ (29 : Int).toNat = 100000000000000000000000000000 := by decide
  rw [b9] at p1
  rw [b30] at p2
  rw [b29] at p3
  have c0 := Int.emod_nonneg (one / 6) (show (12 : Int) ≠ 0 by decide)
  have c1 := Int.emod_lt_of_pos (one / 6) (show (0 : Int) < 12 by decide)
  generalize one / 6 % 12 = i12 at m2 c0 c1
  obtain ⟨far, g3, f1⟩ := int_of (xs := [.int 7, .int 10, .int 42, .int 99, .int (-6), .int (-99), .int 1000000000, .int 999999999999999999999999999999, .int 1, .int 100, .int 12, .int (-12)]) (i := i12) (fun v => v.natAbs < 2 ^ 101) c0 (by simpa using c1) (by
    intro d hd
    simp only [List.mem_cons, List.not_mem_nil, or_false] at hd
    rcases hd with rfl | rfl | rfl | rfl | rfl | rfl | rfl | rfl | rfl | rfl | rfl | rfl <;> exact ⟨_, rfl, by decide⟩)
  have d0 := Int.emod_nonneg s1 (show (7 : Int) ≠ 0 by decide)
  have d1 := Int.emod_nonneg (one / 72) (show (5 : Int) ≠ 0 by decide)
  have d2 := Int.emod_lt_of_pos (one / 72) (show (0 : Int) < 5 by decide)
  generalize s1 % 7 = s7 at m3 d0
  generalize one / 72 % 5 = w5 at m5 d1 d2
  obtain ⟨way, g4, w0, w1⟩ : ∃ way, ixD [.int s7, .int w5] (if decide (4 < s7) = true then 1 else 0) = .ok (.int way) ∧ 0 ≤ way ∧ way < 5 := by
    by_cases h : 4 < s7
    · rw [if_pos (decide_eq_true h)]
      exact ⟨w5, by simp, d1, d2⟩
    · rw [if_neg (by simpa using h)]
      exact ⟨s7, by simp, d0, by omega⟩
  have e0 := Int.emod_nonneg (one / 6) (show (3 : Int) ≠ 0 by decide)
  have e1 := Int.emod_lt_of_pos (one / 6) (show (0 : Int) < 3 by decide)
  have e2 := Int.emod_nonneg (one / 6) (show (4 : Int) ≠ 0 by decide)
  have e3 := Int.emod_lt_of_pos (one / 6) (show (0 : Int) < 4 by decide)
  generalize one / 6 % 3 = q3 at m6 e0 e1
  generalize one / 6 % 4 = q4 at m7 e2 e3
  obtain ⟨th, g5, t1⟩ := int_of (xs := [.int (i : Nat), .int q3, .int (-1 - q4), .int (100000000000000000000000000000 - one), .int far]) (i := way) (fun v => v.natAbs < 2 ^ 101) w0 (by simpa using w1) (by
    intro d hd
    simp only [List.mem_cons, List.not_mem_nil, or_false] at hd
    rcases hd with rfl | rfl | rfl | rfl | rfl
    · exact ⟨_, rfl, by omega⟩
    · exact ⟨_, rfl, by omega⟩
    · exact ⟨_, rfl, by omega⟩
    · exact ⟨_, rfl, by omega⟩
    · exact ⟨_, rfl, f1⟩)
  have n0 := Int.emod_nonneg (one + (i : Int) / 3) (show (3 : Int) ≠ 0 by decide)
  have n1 := Int.emod_lt_of_pos (one + (i : Int) / 3) (show (0 : Int) < 3 by decide)
  generalize (one + (i : Int) / 3) % 3 = j at m9 n0 n1
  obtain ⟨dx, g6, x, rfl, hx⟩ := pick (xs := [.tuple [.str "lay", .int th], .tuple [.str "take"], .tuple [.str "lay", .int th]]) (i := j) (fun d => ∃ x : Option D, d = dd x ∧ ∀ t, x = some t → SmI t) n0 (by simpa using n1) (by
    intro d hd
    simp only [List.mem_cons, List.not_mem_nil, or_false] at hd
    rcases hd with rfl | rfl | rfl
    · exact ⟨some (.int th), rfl, fun t e => by cases e; exact ⟨th, rfl, t1⟩⟩
    · exact ⟨none, rfl, fun t e => by cases e⟩
    · exact ⟨some (.int th), rfl, fun t e => by cases e; exact ⟨th, rfl, t1⟩⟩)
  refine ⟨x, .fz (.int one), .fz (.int far), .fz (.int way), .fz (.int th), ?_, hx⟩
  have hin : dInt [.bool (decide (4 < s7))] = .ok (.int (if decide (4 < s7) = true then 1 else 0)) := rfl
  have im : imm (dd x) = true := by
    cases x with
    | none => rfl
    | some t => simp [dd, (hx t rfl).sm.imm]
  have ap := app1 (j := 3) (M := []) (d := dd x) (f := (bi2 dIx (lstD (lstF (acons (tupD (acons (cst (.str "lay")) (acons (var 8) anil))) (acons (tupD (acons (cst (.str "take")) anil)) (acons (tupD (acons (cst (.str "lay")) (acons (var 8) anil))) anil))))) (bi2 dMod (bi2 dAdd (var 5) (bi2 dDiv (var 4) (cst (.int 3)))) (cst (.int 3)))))
    (ρ := [.fz (.list (ns.map .int)), .fz q1, .fz tr, .ow 1 (.list (deeds.map dd)), .fz (.int (i : Nat)), .fz (.int one), .fz (.int far), .fz (.int way), .fz (.int th)]) rfl (by simp -implicitDefEqProofs [m8, m9, g6]) im (by rw [List.length_map]; omega)
  generalize hin2 : (if decide (4 < s7) = true then (1 : Int) else 0) = jj at hin g4
  simp -implicitDefEqProofs [pbody, g1, g2, g3, g4, g5, m1, m2, m3, m4, m5, m6, m7, p1, p2, p3, hin, ap]
theorem play_int {ns tries : List Int} (hN : Ns ns) (hl : 9 ≤ ns.length) : ∃ deeds : List (Option D), f_law_play [.list (ns.map .int), .int 4, .tuple (tries.map .int)] = .ok (plD deeds tries) ∧ deeds.length ≤ 4 ∧ ∀ t, some t ∈ deeds → SmI t := by
  obtain ⟨s0, g0, h0, h0'⟩ := int_of (xs := ns.map .int) (i := 0) (fun v => 0 ≤ v ∧ v < 2 ^ 30) (by decide) (by rw [List.length_map]; omega) fun d hd => by
    obtain ⟨v, hv, rfl⟩ := List.mem_map.mp hd
    exact ⟨v, rfl, hN v hv⟩
  have m1 : dMod (.int s0) (.int 5) = .ok (.int (s0 % 5)) := dMod_ok (by decide)
  have a0 := Int.emod_nonneg s0 (show (5 : Int) ≠ 0 by decide)
  have a1 := Int.emod_lt_of_pos s0 (show (0 : Int) < 5 by decide)
  generalize s0 % 5 = n at m1 a0 a1
  have er : rng1 [.int n] = .ok (rangeD 0 n) := by rw [rng1_i, if_pos (rngOk_of (by omega) (by omega))]
  obtain ⟨ρ', hf, deeds, b4, b5, b6, b7, b8, rfl, h1, h2⟩ := forL_ix (b := bName 4) (g := pbody) (xs := rangeD 0 n) (k := 0) (ρ := [.fz (.list (ns.map .int)), .fz (.int 4), .fz (.tuple (tries.map .int)), .ow 1 (.list []), .un, .un, .un, .un, .un])
    (fun k ρ => ∃ (deeds : List (Option D)) (b4 b5 b6 b7 b8 : Sl), ρ = [.fz (.list (ns.map .int)), .fz (.int 4), .fz (.tuple (tries.map .int)), .ow 1 (.list (deeds.map dd)), b4, b5, b6, b7, b8] ∧ deeds.length = k ∧ ∀ t, some t ∈ deeds → SmI t)
    ⟨[], _, _, _, _, _, rfl, rfl, (fun _ h => by cases h)⟩ (by
      rintro i d hi ρ ⟨deeds, b4, b5, b6, b7, b8, rfl, h1, h2⟩
      rw [Nat.zero_add] at h1 ⊢
      have hi2 := (List.getElem?_eq_some_iff.mp hi).1
      rw [rangeD_len] at hi2
      have ed : d = .int (i : Nat) := by
        rw [rangeD_get hi2, Int.zero_add] at hi
        exact (Option.some.inj hi).symm
      subst ed
      obtain ⟨x, c5, c6, c7, c8, e, hx⟩ := pbody_int (tr := .tuple (tries.map .int)) (b5 := b5) (b6 := b6) (b7 := b7) (b8 := b8) hN hl (by omega) h1
      refine ⟨_, _, rfl, e, deeds ++ [x], _, _, _, _, _, rfl, by simp [h1], fun t ht => ?_⟩
      rcases List.mem_append.mp ht with ht | ht
      · exact h2 t ht
      · exact hx t (List.mem_singleton.mp ht).symm)
  rw [rangeD_len, Nat.zero_add, Int.sub_zero] at h1
  refine ⟨deeds, ?_, by omega, h2⟩
  unfold f_law_play
  rw [play_def]
  generalize rangeD 0 n = rg at hf er
  have hl2 : dTuple [.list (deeds.map dd)] = .ok (.tuple (deeds.map dd)) := rfl
  simp -implicitDefEqProofs [g0, m1, er, hf, plD]

def T19 : List (List Int) := [[], [1], [2], [1, 1], [1], [0, 1], [2], [1, 1], [1, 0], [3], [1, 1], [2, 0], [1], [2, 1], [0, 2], [1, 2], [0, 0], [0, 3], [3, 0]]
def tD (t : List Int) : D := .tuple (t.map .int)
theorem T19_ok : ∀ t ∈ T19, t.length ≤ 2 ∧ (∀ k ∈ t, 0 ≤ k ∧ k ≤ 3) ∧ t.sum ≤ 3 := by decide
def sp1 : Env' → Res := (asg 1 [] (lstD (lstF (acons (tupD anil) (acons (tupD (acons (cst (.int 1)) anil)) (acons (tupD (acons (cst (.int 2)) anil)) (acons (tupD (acons (cst (.int 1)) (acons (cst (.int 1)) anil))) (acons (tupD (acons (cst (.int 1)) anil)) (acons (tupD (acons (cst (.int 0)) (acons (cst (.int 1)) anil))) (acons (tupD (acons (cst (.int 2)) anil)) (acons (tupD (acons (cst (.int 1)) (acons (cst (.int 1)) anil))) anil)))))))))))
def sp2 : Env' → Res := (asg 1 [] (lstD (biF dAddF (var 1) (lstD (lstF (acons (tupD (acons (cst (.int 1)) (acons (cst (.int 0)) anil))) (acons (tupD (acons (cst (.int 3)) anil)) (acons (tupD (acons (cst (.int 1)) (acons (cst (.int 1)) anil))) (acons (tupD (acons (cst (.int 2)) (acons (cst (.int 0)) anil))) (acons (tupD (acons (cst (.int 1)) anil)) (acons (tupD (acons (cst (.int 2)) (acons (cst (.int 1)) anil))) (acons (tupD (acons (cst (.int 0)) (acons (cst (.int 2)) anil))) (acons (tupD (acons (cst (.int 1)) (acons (cst (.int 2)) anil))) (acons (tupD (acons (cst (.int 0)) (acons (cst (.int 0)) anil))) (acons (tupD (acons (cst (.int 0)) (acons (cst (.int 3)) anil))) (acons (tupD (acons (cst (.int 3)) (acons (cst (.int 0)) anil))) anil))))))))))))))))
def sp3 : Env' → Res := (asg 2 [] (cal f_law_play (acons (var 0) (acons (cst (.int 4)) (acons (bi2 dIx (var 1) (bi2 dMod (bi2 dIx (var 0) (cst (.int 12))) (cst (.int 19)))) anil)))))
def sc4 : Vw → Rv Bool := (tand (asB (bi2 dGt (cal dLen (acons (bi2 dIx (var 2) (cst (.int 1))) anil)) (cst (.int 1)))) (tand (asB (bi2 dGt (cal dMinS (acons (bi2 dIx (var 2) (cst (.int 1))) anil)) (cst (.int 0)))) (asB (bi2 dGt (bi2 dMod (bi2 dDiv (bi2 dIx (var 0) (cst (.int 12))) (cst (.int 19))) (cst (.int 8))) (cst (.int 0))))))
def sp4 : Env' → Res := (sif [] sc4
      (asg 2 [] (tupD (acons (slc (bi2 dIx (var 2) (cst (.int 0))) onone (osome (cst (.int 3)))) (acons (tupD (acons (cst (.int 1)) (acons (cst (.int 1)) anil))) anil))))
      snext)
theorem small_def : m_law_small_play = sseq sp1 (sseq sp2 (sseq sp3 (sseq sp4 (Bv.ret [] (var 2))))) := rfl
theorem few_of {deeds : List (Option D)} {tries : List Int} (d4 : deeds.length ≤ 4) (ds : ∀ t, some t ∈ deeds → SmI t) (tl : tries.length ≤ 2) (tk : ∀ k ∈ tries, 0 ≤ k ∧ k ≤ 3) (ts : tries.sum ≤ 3) : FewR deeds tries :=
  ⟨⟨by omega, fun t h => (ds t h).sm, tl, tk⟩, d4, ts⟩
theorem small_at {ns : List Int} (hN : Ns ns) (hl : ns.length = 30) : ∃ (deeds : List (Option D)) (tries : List Int), f_law_small_play [.list (ns.map .int)] = .ok (plD deeds tries) ∧ FewR deeds tries ∧ ∀ t, some t ∈ deeds → SmI t := by
  obtain ⟨s12, g12, h0, h0'⟩ := int_of (xs := ns.map .int) (i := 12) (fun v => 0 ≤ v ∧ v < 2 ^ 30) (by decide) (by rw [List.length_map]; omega) fun d hd => by
    obtain ⟨v, hv, rfl⟩ := List.mem_map.mp hd
    exact ⟨v, rfl, hN v hv⟩
  have m1 : dMod (.int s12) (.int 19) = .ok (.int (s12 % 19)) := dMod_ok (by decide)
  have a0 := Int.emod_nonneg s12 (show (19 : Int) ≠ 0 by decide)
  have a1 := Int.emod_lt_of_pos s12 (show (0 : Int) < 19 by decide)
  have v1 : dDiv (.int s12) (.int 19) = .ok (.int (s12 / 19)) := dDiv_ok (by decide) (by decide)
  have v2 : dMod (.int (s12 / 19)) (.int 8) = .ok (.int (s12 / 19 % 8)) := dMod_ok (by decide)
  generalize s12 % 19 = r at *
  generalize s12 / 19 % 8 = r8 at *
  obtain ⟨_, gt, tr, htr, rfl⟩ := pick (xs := T19.map tD) (i := r) (fun d => ∃ t ∈ T19, d = tD t) a0 (by simpa [T19] using a1) (fun d hd => by
    obtain ⟨t, ht, rfl⟩ := List.mem_map.mp hd
    exact ⟨t, ht, rfl⟩)
  obtain ⟨tl, tk, ts⟩ := T19_ok tr htr
  obtain ⟨deeds, ep, d4, ds⟩ := play_int (tries := tr) hN (by omega)
  have st1 : sp1 (entry 2 [.list (ns.map .int)]) = .nx [.fz (.list (ns.map .int)), .fz (.list ((T19.take 8).map tD)), .un] := by
    simp -implicitDefEqProofs [sp1, T19, tD]
  have st2 : sp2 [.fz (.list (ns.map .int)), .fz (.list ((T19.take 8).map tD)), .un] = .nx [.fz (.list (ns.map .int)), .fz (.list (T19.map tD)), .un] := by
    simp -implicitDefEqProofs [sp2, T19, tD, biF, dAddF]
  have st3 : sp3 [.fz (.list (ns.map .int)), .fz (.list (T19.map tD)), .un] = .nx [.fz (.list (ns.map .int)), .fz (.list (T19.map tD)), .fz (plD deeds tr)] := by
    have ep' : f_law_play [.list (ns.map .int), .int 4, tD tr] = .ok (plD deeds tr) := ep
    generalize T19.map tD = T at *
    simp -implicitDefEqProofs [sp3, g12, m1, gt, ep']
  have e1 : dIx (plD deeds tr) (.int 1) = .ok (.tuple (tr.map .int)) := by simp [plD]
  have e0 : dIx (plD deeds tr) (.int 0) = .ok (.tuple (deeds.map dd)) := by simp [plD]
  have e2 : dLen [.tuple (tr.map .int)] = .ok (.int tr.length) := by rw [dLen_t, List.length_map]
  have hc : ∃ b, sc4 [some (.list (ns.map .int)), some (.list (T19.map tD)), some (plD deeds tr)] = .ok b := by
    generalize T19.map tD = T at *
    cases tr with
    | nil => exact ⟨false, by simp -implicitDefEqProofs [sc4, e1, e2]⟩
    | cons t1 tr =>
      have e3 : dMinS [.tuple (((t1 :: tr)).map .int)] = .ok (.int (minI t1 tr)) := dMinS_t t1 tr
      generalize (t1 :: tr).length = len at e2
      generalize (t1 :: tr).map PyData.int = TT at *
      by_cases q1 : (1 : Int) < len
      · by_cases q2 : 0 < minI t1 tr
        · exact ⟨_, by simp -implicitDefEqProofs [sc4, e1, e2, e3, q1, q2, g12, v1, v2]; rfl⟩
        · exact ⟨false, by simp -implicitDefEqProofs [sc4, e1, e2, e3, q1, q2]⟩
      · exact ⟨false, by simp -implicitDefEqProofs [sc4, e1, e2, q1]⟩
  obtain ⟨b, hc⟩ := hc
  unfold f_law_small_play
  rw [small_def, sseq_nx st1, sseq_nx st2, sseq_nx st3]
  cases b with
  | false =>
    refine ⟨deeds, tr, ?_, few_of d4 ds tl tk ts, ds⟩
    have st4 : sp4 [.fz (.list (ns.map .int)), .fz (.list (T19.map tD)), .fz (plD deeds tr)] = .nx [.fz (.list (ns.map .int)), .fz (.list (T19.map tD)), .fz (plD deeds tr)] := by
      generalize T19.map tD = T at *
      simp -implicitDefEqProofs [sp4, hc]
    rw [sseq_nx st4]
    simp -implicitDefEqProofs
  | true =>
    have ds' : ∀ t, some t ∈ deeds.take 3 → SmI t := fun t h => ds t (List.mem_of_mem_take h)
    refine ⟨deeds.take 3, [1, 1], ?_, few_of (by rw [List.length_take]; omega) ds' (by decide) (by decide) (by decide), ds'⟩
    have ec : Bv.cutD (deeds.map dd) none (some 3) = (deeds.take 3).map dd := by rw [cut_lo _ (by decide), List.map_take]; rfl
    have st4 : sp4 [.fz (.list (ns.map .int)), .fz (.list (T19.map tD)), .fz (plD deeds tr)] = .nx [.fz (.list (ns.map .int)), .fz (.list (T19.map tD)), .fz (plD (deeds.take 3) [1, 1])] := by
      generalize T19.map tD = T at *
      have epl : plD (deeds.take 3) [1, 1] = .tuple [.tuple ((deeds.take 3).map dd), .tuple [.int 1, .int 1]] := rfl
      rw [epl]
      simp -implicitDefEqProofs [sp4, hc, e0, ec]
    rw [sseq_nx st4]
    simp -implicitDefEqProofs

def tb0_0 : Env' → Res := (asg 2 [] (cal f_law_digits (acons (cal f_law_at (acons (var 0) (acons (var 1) anil))) (acons (cst (.int 30)) anil))))
def tb0_1 : Env' → Res := (asg 3 [] (cal f_law_small_play (acons (var 2) anil)))
def tb0_2c : Vw → Rv Bool := (asB (bi2 dEq (var 1) (cst (.int 1))))
def tb0_2x : Env' → Res := (asg 3 [] (tupD (acons (bi2 dIx (var 3) (cst (.int 0))) (acons (slc (bi2 dIx (var 3) (cst (.int 1))) onone (osome (cst (.int 1)))) anil))))
def tb0_2y : Env' → Res := snext
def tb0_2 : Env' → Res := (sif [] tb0_2c tb0_2x tb0_2y)
def tb0_3 : Env' → Res := (untup [4, 5] [] (cal f_law_all (acons (var 3) (acons (cst (.str "good")) anil))))
def tb0_4 : Env' → Res := (asgDN 6 0)
def tb0_5b : Env' → Res := (dput 6 [] (cal dRepr (acons (cal f_law_told_by (acons (var 7) anil)) anil)) (cst (.bool true)))
def tb0_5 : Env' → Res := (sfor [] (bName 7) (var 5) tb0_5b)
def tb0_6 : Env' → Res := (asg 8 [6] (lstD (calF dSortedA (acons (var 6) anil))))
def tb0_7_0 : Env' → Res := (asgX 10 3 [] (cal f_endings (acons (var 3) anil)))
def tb0_7_1c : Vw → Rv Bool := (tor (tnot (asB (isi "list" (var 10)))) (asB (bi2 dNe (lstD (cmp [14] (vName 14) yes (cal dRepr (acons (var 14) anil)) (srcE (var 10)))) (var 8))))
def tb0_7_1x : Env' → Res := (Bv.ret [] (cst (.bool false)))
def tb0_7_1y : Env' → Res := snext
def tb0_7_1 : Env' → Res := (sif [10] tb0_7_1c tb0_7_1x tb0_7_1y)
def tb0_7_2 : Env' → Res := (asg 11 [10] (bi2 dMod (bi2 dIx (var 2) (cst (.int 13))) (cal dLen (acons (var 10) anil))))
def tb0_7_3 : Env' → Res := (alA 12 10 [10] (pai (pai (pai pav (var 11)) (cst (.int 0))) (bi2 dMod (bi2 dIx (var 2) (cst (.int 14))) (cal dLen (acons (bi2 dIx (bi2 dIx (var 10) (var 11)) (cst (.int 0))) anil)))) (apA 12 10 [10] (cst (.str "x"))))
def tb0_7_4 : Env' → Res := (appP 10 (pai (pai pav (var 11)) (cst (.int 1))) (cst (.str "y")))
def tb0_7_5 : Env' → Res := (letIf 13 [10] (bi2 dAdd (slc (var 10) onone (osome (var 11))) (slc (var 10) (osome (bi2 dAdd (var 11) (cst (.int 1)))) onone)) (asB (bi2 dNe (lstD (cmp [14] (vName 14) yes (cal dRepr (acons (var 14) anil)) (srcE (var 13)))) (bi2 dAdd (slc (var 8) onone (osome (var 11))) (slc (var 8) (osome (bi2 dAdd (var 11) (cst (.int 1)))) onone)))) (Bv.ret [] (cst (.bool false))))
def tb0_7_6c : Vw → Rv Bool := (tor (asB (bi2 dNe (cntM (cal dRepr (acons (bi2 dIx (bi2 dIx (var 10) (var 11)) (cst (.int 0))) anil)) (cst (.str "x"))) (cst (.int 1)))) (asB (bi2 dNe (cntM (cal dRepr (acons (bi2 dIx (var 10) (var 11)) anil)) (cst (.str "y"))) (cst (.int 1)))))
def tb0_7_6x : Env' → Res := (Bv.ret [] (cst (.bool false)))
def tb0_7_6y : Env' → Res := snext
def tb0_7_6 : Env' → Res := (sif [10] tb0_7_6c tb0_7_6x tb0_7_6y)
def tb0_7_7 : Env' → Res := (clrEach 14 10)
def tb0_7_8 : Env' → Res := (clrA 10)
def tb0_7b : Env' → Res := (sseq tb0_7_0 (sseq tb0_7_1 (sseq tb0_7_2 (sseq tb0_7_3 (sseq tb0_7_4 (sseq tb0_7_5 (sseq tb0_7_6 (sseq tb0_7_7 tb0_7_8))))))))
def tb0_7 : Env' → Res := (sforR rng1 [] (bName 9) (acons (bi2 dSub (cst (.int 2)) (cal dInt (acons (bi2 dGt (cal dLenD (acons (var 4) anil)) (cst (.int 1000))) anil))) anil) tb0_7b)
def tb0b : Env' → Res := (sseq tb0_0 (sseq tb0_1 (sseq tb0_2 (sseq tb0_3 (sseq tb0_4 (sseq tb0_5 (sseq tb0_6 tb0_7)))))))
def tb0 : Env' → Res := (sforR rng1 [] (bName 1) (acons (cst (.int 2)) anil) tb0b)
def tb1 : Env' → Res := (Bv.ret [] (bi2 dEq (cal f_endings (acons (tupD (acons (tupD anil) (acons (tupD anil) anil))) anil)) (lstD (lstF (acons (tupD (acons (lstD (lstF (acons (lstD (lstF anil)) anil))) (acons (lstD (lstF anil)) anil))) anil)))))
theorem law_def : m_law = (sseq tb0 tb1) := rfl
variable {deeds : List (Option D)} {tries : List Int}
theorem get_ns {ns : List Int} (hN : Ns ns) (hl : ns.length = 30) (j : Int) (h0 : 0 ≤ j) (h1 : j < 30) : ∃ v, ixD (ns.map .int) j = .ok (.int v) ∧ 0 ≤ v ∧ v < 2 ^ 30 :=
  int_of (fun v => 0 ≤ v ∧ v < 2 ^ 30) h0 (by rw [List.length_map]; omega) fun d hd => by
    obtain ⟨v, hv, rfl⟩ := List.mem_map.mp hd
    exact ⟨v, rfl, hN v hv⟩
theorem is_list (xs : List D) : isiD "list" (.list xs) = .ok (.bool true) := by
  have : kitB "list" "list" = some true := by decide +kernel
  show (match kitB "list" "list" with | some b => Rv.ok (PyData.bool b) | none => .un) = _
  rw [this]
theorem dNe_strs (ts : List Str) (h : ∀ t ∈ ts, PyData.strOk t = true) : dNe (.list (ts.map .str)) (.list (ts.map .str)) = .ok (.bool false) := by
  have hs : shp (.list (ts.map .str)) = true := shp_row fun d hd => by
    obtain ⟨t, ht, rfl⟩ := List.mem_map.mp hd
    exact ⟨rfl, h t ht, by simp [PyData.depth]⟩
  have cl : PyData.canLay0 (.list (ts.map .str)) = true := by
    simp only [PyData.canLay0]
    clear hs
    induction ts with
    | nil => rfl
    | cons t ts ih =>
      have := ih fun x hx => h x (List.mem_cons_of_mem _ hx)
      simp only [List.map_cons, PyData.canLayAll0, PyData.canLay0, this, h t List.mem_cons_self, Bool.and_true]
  have e := dEq_any hs hs (fun _ _ q => by cases q.1) fun _ _ q => by cases q.1
  unfold dNe
  rw [e, SeqAt.eqv_refl _ cl]
  rfl
theorem tx_small {d : D} (h : Sm d) : ∀ c ∈ tx d, c < 200 := fun c hc => by
  rcases tx_form h with ⟨_, e⟩ | ⟨_, e⟩ | ⟨n, _, e⟩ | ⟨n, _, e⟩ <;> rw [e] at hc
  · simp at hc; omega
  · simp at hc; omega
  · refine Classical.byContradiction fun z => TL.numL_free (n := n) (s := c) (.inr (by omega)) hc
  · rcases List.mem_cons.mp hc with z | z
    · omega
    · refine Classical.byContradiction fun y => TL.numL_free (n := n + 1) (s := c) (.inr (by omega)) z
theorem rc_small {xs : List D} (h : ∀ d ∈ xs, ∀ c ∈ tx d, c < 200) : ∀ c ∈ rc xs, c < 200 := fun c hc => by
  rcases joinL_free hc with z | z | ⟨p, hp, z⟩
  · omega
  · omega
  · obtain ⟨d, hd, rfl⟩ := List.mem_map.mp hp
    exact h d hd c z
theorem list_small {xs : List D} (h : ∀ d ∈ xs, ∀ c ∈ tx d, c < 200) : ∀ c ∈ tx (.list xs), c < 200 := fun c hc => by
  rw [tx_list] at hc
  rcases List.mem_cons.mp hc with z | z
  · omega
  · rcases List.mem_append.mp z with z | z
    · exact rc_small h c z
    · have := List.mem_singleton.mp z; omega
theorem td_ok {rows : List (List D)} {left : List D} {b : Nat} (h : TDok rows left b) : PyData.strOk (TD rows left).shown = true := by
  have key : ∀ c ∈ tx (TD rows left), c < 200 := fun c hc => by
    unfold TD at hc
    rw [tx_pair] at hc
    have l1 := list_small (xs := rows.map PyData.list) fun d hd => by
      obtain ⟨r, hr, rfl⟩ := List.mem_map.mp hd
      exact list_small fun d hd => tx_small ((h.rs r hr).1 d hd)
    have l2 := list_small (xs := left) fun d hd => tx_small (h.ls d hd)
    simp only [List.mem_cons, List.mem_append, List.not_mem_nil, or_false] at hc
    rcases hc with z | z | (z | z) | z | z
    · omega
    · exact l1 c z
    · omega
    · omega
    · exact l2 c z
    · omega
  unfold PyData.strOk
  rw [← Array.all_toList, List.all_eq_true]
  exact fun c hc => decide_eq_true (Nat.lt_of_lt_of_le (key c hc) (by decide))
/-- the rows of repr -/
theorem reprs_at {F : FewR deeds tries} {es : List D} (h : ∀ e ∈ es, IsEnd deeds tries e) (hl : es.length ≤ 16000000) {η : Vw} {f : Vw → Rv D} (hf : f η = .ok (.list es)) (h14 : η.length = 15) :
    cmp [14] (vName 14) yes (cal dRepr (acons (var 14) anil)) (srcE f) η = .ok ((es.map PyData.shown).map .str) := by
  refine cmp_ok (xs := es) (by simp [hf]) hl ?_
  rw [List.map_map]
  have k := compL_map (b := vName 14) (ft := yes) (fe := cal dRepr (acons (var 14) anil)) (η := wipeV [14] η) (g := id) (h := PyData.str ∘ PyData.shown) (xs := es) fun e he => ⟨_, rfl, rfl, by
    obtain ⟨s, G, hD, rfl⟩ := h e he
    have et := told_repr F.P G.good
    show cal dRepr (acons (var 14) anil) (List.set (wipeV [14] η) 14 (some (told s))) = .ok (.str (told s).shown)
    have : (List.set η 14 (some (told s)))[14]? = some (some (told s)) := List.getElem?_set_self (by omega)
    generalize told s = T at *
    simp -implicitDefEqProofs [this, et]⟩
  rwa [List.map_id] at k
theorem end_ok (F : FewR deeds tries) {e : D} (h : IsEnd deeds tries e) : ∃ rows left, e = TD rows left ∧ TDok rows left 9 := by
  obtain ⟨s, G, hD, rfl⟩ := h
  exact told_ok F.P G.good
theorem clrAll_td : ∀ {es : List D}, (∀ e ∈ es, ∃ rows left, e = TD rows left) → ∃ zs, clrAll es = some zs
  | [], _ => ⟨[], rfl⟩
  | e :: es, h => by
    obtain ⟨rows, left, rfl⟩ := h e List.mem_cons_self
    obtain ⟨zs, q⟩ := clrAll_td fun x hx => h x (List.mem_cons_of_mem _ hx)
    exact ⟨_, by unfold clrAll; rw [q]; rfl⟩
theorem alA_at {r j : Nat} {M : List Nat} {fp : Vw → Nat → D → Rv Foc} {f : Foc → Env' → Res} {ρ : Env'} {n : Nat} {d : D} {p : Foc} (h : ρ[j]? = some (.ow n d)) (hn : r ≠ j) (hr : r < ρ.length) (hp : fp (vw M ρ) n d = .ok p) : alA r j M fp f ρ = f p (ρ.set r .un) := by
  unfold alA
  simp only [h]
  rw [if_pos ⟨hn, hr⟩, hp]
  rfl
theorem ixN_nat {n i : Nat} (h : i < n) : ixN n (i : Int) = some i := by
  unfold ixN
  rw [if_pos (by omega), if_pos (by omega), Int.toNat_natCast]
theorem pai_l {fp : Vw → Nat → D → Rv Foc} {η : Vw} {n m i : Nat} {d x : D} {xs : List D} {put : D → D} {f : Vw → Rv D} (h : fp η n d = .ok (m + 1, .list xs, put)) (hf : f η = .ok (.int (i : Nat))) (hx : xs[i]? = some x) : pai fp f η n d = .ok (m, x, fun z => put (.list (xs.set i z))) := by
  have hlt := (List.getElem?_eq_some_iff.mp hx).1
  unfold pai
  rw [h, Rv.bind_ok, hf, Rv.bind_ok]
  show (match ixN xs.length (i : Int) with | some k => (match xs[k]? with | some x => (Rv.ok (m, x, fun y => put (PyData.list (xs.set k y))) : Rv Foc) | none => .un) | none => .un) = _
  rw [ixN_nat hlt]
  dsimp only
  rw [hx]
theorem pai_t {fp : Vw → Nat → D → Rv Foc} {η : Vw} {n m i : Nat} {d x : D} {xs : List D} {put : D → D} {f : Vw → Rv D} (h : fp η n d = .ok (m + 1, .tuple xs, put)) (hi : immA xs = false) (hf : f η = .ok (.int (i : Nat))) (hx : xs[i]? = some x) : pai fp f η n d = .ok (m + 1, x, fun z => put (.tuple (xs.set i z))) := by
  have hlt := (List.getElem?_eq_some_iff.mp hx).1
  unfold pai
  rw [h, Rv.bind_ok, hf, Rv.bind_ok]
  show (if immA xs = true then (.un : Rv Foc) else match ixN xs.length (i : Int) with | some k => (match xs[k]? with | some x => (Rv.ok (m + 1, x, fun y => put (PyData.tuple (xs.set k y))) : Rv Foc) | none => .un) | none => .un) = _
  rw [if_neg (by rw [hi]; decide), ixN_nat hlt]
  dsimp only
  rw [hx]
theorem apA_at {r j n m : Nat} {M : List Nat} {f : Vw → Rv D} {ρ : Env'} {d : D} {xs : List D} {put : D → D} {y : D} (h : ρ[j]? = some (.ow n d)) (hv : f ((vw M ρ).set r (some (.list xs))) = .ok y) (hl : xs.length < 16000000) (hm : imm y = true) :
    apA r j M f (m + 1, .list xs, put) ρ = .nx (ρ.set j (.ow n (put (.list (xs ++ [y]))))) := by
  unfold apA
  simp only [h, hv, Rv.st_ok]
  rw [if_pos ⟨hl, hm⟩]
theorem appP_at {j n m : Nat} {fp : Vw → Nat → D → Rv Foc} {f : Vw → Rv D} {ρ : Env'} {d : D} {xs : List D} {put : D → D} {y : D} (h : ρ[j]? = some (.ow n d)) (hp : fp (vw [] ρ) n d = .ok (m + 1, .list xs, put)) (hv : f (vw [] ρ) = .ok y) (hl : xs.length < 16000000) (hm : imm y = true) :
    appP j fp f ρ = .nx (ρ.set j (.ow n (put (.list (xs ++ [y]))))) := by
  unfold appP
  simp only [h, hp, hv, Rv.st_ok]
  rw [if_pos ⟨hl, hm⟩]
theorem turn_at {ns : List Int} {ks : List Str} {a0 a1 a4 a5 a6 a7 a9 b10 b11 b12 b13 b14 : Sl} (hN : Ns ns) (hl : ns.length = 30) (F : FewR deeds tries) (nd : ks.Nodup) (hA : AllT deeds tries ks) (hne : ks ≠ []) :
    ∃ c10 c11, tb0_7b [a0, a1, .fz (.list (ns.map .int)), .fz (plD deeds tries), a4, a5, a6, a7, .fz (.list ((sortS ks).map .str)), a9, b10, b11, b12, b13, b14] = .nx [a0, a1, .fz (.list (ns.map .int)), .fz (plD deeds tries), a4, a5, a6, a7, .fz (.list ((sortS ks).map .str)), a9, c10, c11, .un, .un, .un] := by
  obtain ⟨es, ks', e1, hE, hS, nd', hA', hle⟩ := endings_at F
  rw [allT_eq nd' nd hA' hA] at hS
  have hnE : 0 < es.length := by
    have h1 : es.length = (sortS ks).length := by rw [← hS, List.length_map]
    rw [h1, (sortS_perm ks).length_eq]
    exact List.length_pos_iff.mpr hne
  obtain ⟨v13, g13, p13, _⟩ := get_ns hN hl 13 (by decide) (by decide)
  obtain ⟨v14, g14, p14, _⟩ := get_ns hN hl 14 (by decide) (by decide)
  have m13 : dMod (.int v13) (.int es.length) = .ok (.int (v13 % es.length)) := dMod_ok (by omega)
  obtain ⟨at_, hat, hal⟩ : ∃ a : Nat, v13 % (es.length : Int) = a ∧ a < es.length := by
    have q0 := Int.emod_nonneg v13 (show (es.length : Int) ≠ 0 by omega)
    have q1 := Int.emod_lt_of_pos v13 (show (0 : Int) < es.length by omega)
    exact ⟨(v13 % (es.length : Int)).toNat, by omega, by omega⟩
  rw [hat] at m13
  have hget : es[at_]? = some es[at_] := List.getElem?_eq_getElem hal
  obtain ⟨rows, left, et, ok⟩ := end_ok F (hE _ (List.getElem_mem hal))
  rw [et] at hget
  have hR : 0 < rows.length := List.length_pos_iff.mpr ok.ne
  have m14 : dMod (.int v14) (.int rows.length) = .ok (.int (v14 % rows.length)) := dMod_ok (by omega)
  obtain ⟨p, hp, hpl⟩ : ∃ a : Nat, v14 % (rows.length : Int) = a ∧ a < rows.length := by
    have q0 := Int.emod_nonneg v14 (show (rows.length : Int) ≠ 0 by omega)
    have q1 := Int.emod_lt_of_pos v14 (show (0 : Int) < rows.length by omega)
    exact ⟨(v14 % (rows.length : Int)).toNat, by omega, by omega⟩
  rw [hp] at m14
  obtain ⟨⟨ta, ra, ca⟩, ⟨tb, rb, cb⟩⟩ := once_at ok hpl
  have hrow : rows[p]? = some (rows.getD p []) := by
    rw [List.getD_eq_getElem?_getD, List.getElem?_eq_getElem hpl, Option.getD_some]
  have hrl : (rows.getD p []).length < 16000000 := by
    have := (ok.rs _ (List.mem_of_getElem? hrow)).2
    omega
  have hll := ok.ll
  have e_l : (rows.map PyData.list).length = rows.length := List.length_map _
  have hRg : (rows.map PyData.list)[p]? = some (.list (rows.getD p [])) := by rw [List.getElem?_map, hrow]; rfl
  have hset : ∀ r : List D, (rows.map PyData.list).set p (.list r) = (rows.set p r).map PyData.list := fun r => by rw [List.map_set]
  have hRne : immA [PyData.list (rows.map PyData.list), .list left] = false := rfl
  obtain ⟨es2, hes2⟩ : ∃ es2, es2 = es.set at_ (TD (rows.set p (rows.getD p [] ++ [.str "x"])) (left ++ [.str "y"])) := ⟨_, rfl⟩
  have htk : es2.take at_ = es.take at_ := by rw [hes2, List.take_set_of_le (Nat.le_refl _)]
  have hdr : es2.drop (at_ + 1) = es.drop (at_ + 1) := by rw [hes2, List.drop_set_of_lt (by omega)]
  have hc1 : Bv.cutD es2 none (some (at_ : Nat)) = es.take at_ := by rw [cut_lo _ (by omega), Int.toNat_natCast, htk]
  have hc2 : Bv.cutD es2 (some ((at_ : Nat) + 1)) none = es.drop (at_ + 1) := by rw [cut_hi _ (by omega), show ((at_ : Int) + 1).toNat = at_ + 1 by omega, hdr]
  have hl2 : es2.length = es.length := by rw [hes2, List.length_set]
  -- the names of it all
  have hES : ∀ e ∈ es, ∃ rows left, e = TD rows left ∧ TDok rows left 9 := fun e he => end_ok F (hE e he)
  have hok : ∀ t ∈ es.map PyData.shown, PyData.strOk t = true := fun t ht => by
    obtain ⟨e, he, rfl⟩ := List.mem_map.mp ht
    obtain ⟨r, l, rfl, o⟩ := hES e he
    exact td_ok o
  have hsame := dNe_strs (es.map PyData.shown) hok
  obtain ⟨OTH, hOTH⟩ : ∃ x, x = es.take at_ ++ es.drop (at_ + 1) := ⟨_, rfl⟩
  have hOE : ∀ e ∈ OTH, IsEnd deeds tries e := fun e he => by
    rw [hOTH] at he
    exact (List.mem_append.mp he).elim (fun z => hE e (List.mem_of_mem_take z)) fun z => hE e (List.mem_of_mem_drop z)
  have hOl : OTH.length ≤ 16000000 := by rw [hOTH, List.length_append, List.length_take, List.length_drop]; omega
  have hsame2 := dNe_strs (OTH.map PyData.shown) fun t ht => hok t (by
    rw [hOTH, List.map_append] at ht
    rcases List.mem_append.mp ht with z | z
    · rw [List.map_take] at z; exact List.mem_of_mem_take z
    · rw [List.map_drop] at z; exact List.mem_of_mem_drop z)
  have hadd : dAdd (.list (es.take at_)) (.list (es.drop (at_ + 1))) = .ok (.list OTH) := by
    rw [dAdd_ll, if_pos (by rw [List.length_take, List.length_drop]; omega), hOTH]
  rw [← hS]
  obtain ⟨DU, hDU⟩ : ∃ x, x = (es.map PyData.shown).map PyData.str := ⟨_, rfl⟩
  have hDl : DU.length = es.length := by rw [hDU, List.length_map, List.length_map]
  have hd1 : Bv.cutD DU none (some (at_ : Nat)) = DU.take at_ := by rw [cut_lo _ (by omega), Int.toNat_natCast]
  have hd2 : Bv.cutD DU (some ((at_ : Nat) + 1)) none = DU.drop (at_ + 1) := by rw [cut_hi _ (by omega), show ((at_ : Int) + 1).toNat = at_ + 1 by omega]
  have hOD : (OTH.map PyData.shown).map PyData.str = DU.take at_ ++ DU.drop (at_ + 1) := by
    rw [hOTH, hDU, List.map_append, List.map_append, List.map_take, List.map_take, List.map_drop, List.map_drop]
  have hadd2 : dAdd (.list (DU.take at_)) (.list (DU.drop (at_ + 1))) = .ok (.list ((OTH.map PyData.shown).map PyData.str)) := by
    rw [dAdd_ll, if_pos (by rw [List.length_take, List.length_drop]; omega), hOD]
  have R1 : ∀ {η : Vw} {f : Vw → Rv D}, f η = .ok (.list es) → η.length = 15 → cmp [14] (vName 14) yes (cal dRepr (acons (var 14) anil)) (srcE f) η = .ok DU := fun hf h15 => by rw [hDU]; exact reprs_at (F := F) hE hle hf h15
  have R2 : ∀ {η : Vw} {f : Vw → Rv D}, f η = .ok (.list OTH) → η.length = 15 → cmp [14] (vName 14) yes (cal dRepr (acons (var 14) anil)) (srcE f) η = .ok ((OTH.map PyData.shown).map PyData.str) := fun hf h15 => reprs_at (F := F) hOE hOl hf h15
  rw [← hDU] at hsame ⊢
  have hix : ixD es (at_ : Nat) = .ok (TD rows left) := ixD_nat (by omega) (by simpa using hget)
  have hix2 : ixD es2 (at_ : Nat) = .ok (TD (rows.set p (rows.getD p [] ++ [.str "x"])) (left ++ [.str "y"])) := ixD_nat (by omega) (by rw [hes2]; simp [hal])
  have hil := is_list es
  have hcl : ∃ zs, clrAll es2 = some zs := clrAll_td fun e he => by
    rw [hes2] at he
    rcases List.mem_or_eq_of_mem_set he with he | rfl
    · obtain ⟨r, l, q, _⟩ := hES e he; exact ⟨r, l, q⟩
    · exact ⟨_, _, rfl⟩
  obtain ⟨zs, hzs⟩ := hcl
  have hdn : dNe (.int 1) (.int 1) = .ok (.bool false) := rfl
  -- the lines
  have t0 : tb0_7_0 [a0, a1, .fz (.list (ns.map .int)), .fz (plD deeds tries), a4, a5, a6, a7, .fz (.list DU), a9, b10, b11, b12, b13, b14] = .nx [a0, a1, .fz (.list (ns.map .int)), .fz (plD deeds tries), a4, a5, a6, a7, .fz (.list DU), a9, .ow 3 (.list es), b11, b12, b13, b14] := by
    generalize plD deeds tries = pl at *
    simp -implicitDefEqProofs [tb0_7_0, e1]
  have t1 : tb0_7_1 [a0, a1, .fz (.list (ns.map .int)), .fz (plD deeds tries), a4, a5, a6, a7, .fz (.list DU), a9, .ow 3 (.list es), b11, b12, b13, b14] = .nx [a0, a1, .fz (.list (ns.map .int)), .fz (plD deeds tries), a4, a5, a6, a7, .fz (.list DU), a9, .ow 3 (.list es), b11, b12, b13, b14] := by
    have hc : tb0_7_1c (vw [10] [a0, a1, .fz (.list (ns.map .int)), .fz (plD deeds tries), a4, a5, a6, a7, .fz (.list DU), a9, .ow 3 (.list es), b11, b12, b13, b14]) = .ok false := by
      have k := R1 (η := vw [10] [a0, a1, .fz (.list (ns.map .int)), .fz (plD deeds tries), a4, a5, a6, a7, .fz (.list DU), a9, .ow 3 (.list es), b11, b12, b13, b14]) (f := var 10) (by simp) (by simp)
      unfold tb0_7_1c
      generalize cmp [14] (vName 14) yes (cal dRepr (acons (var 14) anil)) (srcE (var 10)) = CM at *
      simp -implicitDefEqProofs at k
      simp -implicitDefEqProofs [hil, k, hsame]
    unfold tb0_7_1
    rw [sif_def, hc]
    rfl
  have t2 : tb0_7_2 [a0, a1, .fz (.list (ns.map .int)), .fz (plD deeds tries), a4, a5, a6, a7, .fz (.list DU), a9, .ow 3 (.list es), b11, b12, b13, b14] = .nx [a0, a1, .fz (.list (ns.map .int)), .fz (plD deeds tries), a4, a5, a6, a7, .fz (.list DU), a9, .ow 3 (.list es), .fz (.int (at_ : Nat)), b12, b13, b14] := by
    simp -implicitDefEqProofs [tb0_7_2, g13, m13]
  have t3 : tb0_7_3 [a0, a1, .fz (.list (ns.map .int)), .fz (plD deeds tries), a4, a5, a6, a7, .fz (.list DU), a9, .ow 3 (.list es), .fz (.int (at_ : Nat)), b12, b13, b14] = .nx [a0, a1, .fz (.list (ns.map .int)), .fz (plD deeds tries), a4, a5, a6, a7, .fz (.list DU), a9, .ow 3 (.list (es.set at_ (TD (rows.set p (rows.getD p [] ++ [.str "x"])) left))), .fz (.int (at_ : Nat)), .un, b13, b14] := by
    have hT : TD rows left = .tuple [.list (rows.map PyData.list), .list left] := rfl
    rw [hT] at hget hix
    have h1 : pai (pai pav (var 11)) (cst (.int 0)) (vw [10] [a0, a1, .fz (.list (ns.map .int)), .fz (plD deeds tries), a4, a5, a6, a7, .fz (.list DU), a9, .ow 3 (.list es), .fz (.int (at_ : Nat)), b12, b13, b14]) 3 (.list es) = .ok (2, .list (rows.map PyData.list), fun z => .list (es.set at_ (.tuple [z, .list left]))) :=
      pai_t (m := 1) (i := 0) (pai_l (m := 2) (put := id) rfl rfl hget) hRne rfl rfl
    have hidx : (bi2 dMod (bi2 dIx (var 2) (cst (.int 14))) (cal dLen (acons (bi2 dIx (bi2 dIx (var 10) (var 11)) (cst (.int 0))) anil))) (vw [10] [a0, a1, .fz (.list (ns.map .int)), .fz (plD deeds tries), a4, a5, a6, a7, .fz (.list DU), a9, .ow 3 (.list es), .fz (.int (at_ : Nat)), b12, b13, b14]) = .ok (.int (p : Nat)) := by
      generalize rows.map PyData.list = R at *
      simp -implicitDefEqProofs [g14, hix, e_l, m14]
    have h2 := pai_l (m := 1) h1 hidx hRg
    unfold tb0_7_3
    rw [alA_at (n := 3) (d := .list es) rfl (by decide) (by simp) h2, apA_at (n := 3) (d := .list es) (y := .str "x") rfl rfl hrl rfl]
    rw [hset]
    rfl
  have hg1 : (es.set at_ (TD (rows.set p (rows.getD p [] ++ [.str "x"])) left))[at_]? = some (TD (rows.set p (rows.getD p [] ++ [.str "x"])) left) := by simp [hal]
  have hs2 : (es.set at_ (TD (rows.set p (rows.getD p [] ++ [.str "x"])) left)).set at_ (TD (rows.set p (rows.getD p [] ++ [.str "x"])) (left ++ [.str "y"])) = es2 := by rw [hes2, List.set_set]
  have t4 : tb0_7_4 [a0, a1, .fz (.list (ns.map .int)), .fz (plD deeds tries), a4, a5, a6, a7, .fz (.list DU), a9, .ow 3 (.list (es.set at_ (TD (rows.set p (rows.getD p [] ++ [.str "x"])) left))), .fz (.int (at_ : Nat)), .un, b13, b14] = .nx [a0, a1, .fz (.list (ns.map .int)), .fz (plD deeds tries), a4, a5, a6, a7, .fz (.list DU), a9, .ow 3 (.list es2), .fz (.int (at_ : Nat)), .un, b13, b14] := by
    rw [← hs2]
    generalize rows.set p (rows.getD p [] ++ [.str "x"]) = rows' at *
    have hT : TD rows' left = .tuple [.list (rows'.map PyData.list), .list left] := rfl
    have hT2 : TD rows' (left ++ [.str "y"]) = .tuple [.list (rows'.map PyData.list), .list (left ++ [.str "y"])] := rfl
    rw [hT, hT2]
    rw [hT] at hg1
    generalize es.set at_ (.tuple [.list (rows'.map PyData.list), .list left]) = es1 at *
    have h1 : pai (pai pav (var 11)) (cst (.int 1)) (vw [] [a0, a1, .fz (.list (ns.map .int)), .fz (plD deeds tries), a4, a5, a6, a7, .fz (.list DU), a9, .ow 3 (.list es1), .fz (.int (at_ : Nat)), .un, b13, b14]) 3 (.list es1) = .ok (2, .list left, fun z => .list (es1.set at_ (.tuple [.list (rows'.map PyData.list), z]))) :=
      pai_t (m := 1) (i := 1) (pai_l (m := 2) (put := id) rfl rfl hg1) rfl rfl rfl
    unfold tb0_7_4
    rw [appP_at (n := 3) (d := .list es1) (y := .str "y") rfl h1 rfl (by omega) rfl]
    rfl
  have t5 : tb0_7_5 [a0, a1, .fz (.list (ns.map .int)), .fz (plD deeds tries), a4, a5, a6, a7, .fz (.list DU), a9, .ow 3 (.list es2), .fz (.int (at_ : Nat)), .un, b13, b14] = .nx [a0, a1, .fz (.list (ns.map .int)), .fz (plD deeds tries), a4, a5, a6, a7, .fz (.list DU), a9, .ow 3 (.list es2), .fz (.int (at_ : Nat)), .un, .un, b14] := by
    have h1 : (bi2 dAdd (slc (var 10) onone (osome (var 11))) (slc (var 10) (osome (bi2 dAdd (var 11) (cst (.int 1)))) onone)) (vw [10] [a0, a1, .fz (.list (ns.map .int)), .fz (plD deeds tries), a4, a5, a6, a7, .fz (.list DU), a9, .ow 3 (.list es2), .fz (.int (at_ : Nat)), .un, b13, b14]) = .ok (.list OTH) := by
      simp -implicitDefEqProofs [hc1, hc2, hadd]
    have h2 : (asB (bi2 dNe (lstD (cmp [14] (vName 14) yes (cal dRepr (acons (var 14) anil)) (srcE (var 13)))) (bi2 dAdd (slc (var 8) onone (osome (var 11))) (slc (var 8) (osome (bi2 dAdd (var 11) (cst (.int 1)))) onone)))) ((vw [10] [a0, a1, .fz (.list (ns.map .int)), .fz (plD deeds tries), a4, a5, a6, a7, .fz (.list DU), a9, .ow 3 (.list es2), .fz (.int (at_ : Nat)), .un, b13, b14]).set 13 (some (.list OTH))) = .ok false := by
      have k := R2 (η := (vw [10] [a0, a1, .fz (.list (ns.map .int)), .fz (plD deeds tries), a4, a5, a6, a7, .fz (.list DU), a9, .ow 3 (.list es2), .fz (.int (at_ : Nat)), .un, b13, b14]).set 13 (some (.list OTH))) (f := var 13) (by simp) (by simp)
      generalize cmp [14] (vName 14) yes (cal dRepr (acons (var 14) anil)) (srcE (var 13)) = CM at *
      generalize (OTH.map PyData.shown).map PyData.str = OS at *
      simp -implicitDefEqProofs at k
      simp -implicitDefEqProofs [k, hd1, hd2, hadd2, hsame2]
    unfold tb0_7_5 letIf
    rw [if_pos (by simp), h1]
    simp only [Rv.st_ok]
    rw [h2]
    rfl
  have t6 : tb0_7_6 [a0, a1, .fz (.list (ns.map .int)), .fz (plD deeds tries), a4, a5, a6, a7, .fz (.list DU), a9, .ow 3 (.list es2), .fz (.int (at_ : Nat)), .un, .un, b14] = .nx [a0, a1, .fz (.list (ns.map .int)), .fz (plD deeds tries), a4, a5, a6, a7, .fz (.list DU), a9, .ow 3 (.list es2), .fz (.int (at_ : Nat)), .un, .un, b14] := by
    generalize rows.set p (rows.getD p [] ++ [.str "x"]) = rows' at *
    generalize left ++ [.str "y"] = left' at *
    have hT : TD rows' left' = .tuple [.list (rows'.map PyData.list), .list left'] := rfl
    rw [hT] at hix2 rb
    generalize rows'.map PyData.list = R' at *
    have s1 : isStr (PyData.str ta) = true := rfl
    have s2 : isStr (PyData.str tb) = true := rfl
    simp -implicitDefEqProofs [tb0_7_6, tb0_7_6c, tb0_7_6y, hix2, ra, rb, cntM, s1, s2, ca, cb, hdn]
  have t7 : tb0_7_7 [a0, a1, .fz (.list (ns.map .int)), .fz (plD deeds tries), a4, a5, a6, a7, .fz (.list DU), a9, .ow 3 (.list es2), .fz (.int (at_ : Nat)), .un, .un, b14] = .nx [a0, a1, .fz (.list (ns.map .int)), .fz (plD deeds tries), a4, a5, a6, a7, .fz (.list DU), a9, .ow 3 (.list zs), .fz (.int (at_ : Nat)), .un, .un, .un] := by
    simp -implicitDefEqProofs [tb0_7_7, clrEach, hzs]
  have t8 : tb0_7_8 [a0, a1, .fz (.list (ns.map .int)), .fz (plD deeds tries), a4, a5, a6, a7, .fz (.list DU), a9, .ow 3 (.list zs), .fz (.int (at_ : Nat)), .un, .un, .un] = .nx [a0, a1, .fz (.list (ns.map .int)), .fz (plD deeds tries), a4, a5, a6, a7, .fz (.list DU), a9, .ow 3 (.list []), .fz (.int (at_ : Nat)), .un, .un, .un] := rfl
  exact ⟨_, _, (sseq_nx (g := sseq tb0_7_1 (sseq tb0_7_2 (sseq tb0_7_3 (sseq tb0_7_4 (sseq tb0_7_5 (sseq tb0_7_6 (sseq tb0_7_7 tb0_7_8))))))) t0).trans ((sseq_nx t1).trans ((sseq_nx t2).trans ((sseq_nx t3).trans ((sseq_nx t4).trans ((sseq_nx t5).trans ((sseq_nx t6).trans ((sseq_nx t7).trans t8)))))))⟩
theorem tb00_at {sc : List Int} {k : Int} {b2 b3 b4 b5 b6 b7 b8 b9 b10 b11 b12 b13 b14 : Sl} (h0 : 0 ≤ k) (h1 : k ≤ 1000) : ∃ ns : List Int, ns.length = 30 ∧ Ns ns ∧ tb0_0 [.fz (.list (sc.map .int)), .fz (.int k), b2, b3, b4, b5, b6, b7, b8, b9, b10, b11, b12, b13, b14] = .nx [.fz (.list (sc.map .int)), .fz (.int k), .fz (.list (ns.map .int)), b3, b4, b5, b6, b7, b8, b9, b10, b11, b12, b13, b14] := by
  obtain ⟨c, e1⟩ := at_at sc (k := k) h0 h1
  obtain ⟨ns, e2, hl, hN⟩ := digits_at c (many := 30) (by decide) (by decide)
  exact ⟨ns, by omega, hN, by simp -implicitDefEqProofs [tb0_0, e1, e2]⟩
theorem imm_dd {deeds : List (Option D)} (ds : ∀ t, some t ∈ deeds → SmI t) : immA (deeds.map dd) = true := immA_of fun d hd => by
  obtain ⟨x, hx, rfl⟩ := List.mem_map.mp hd
  cases x with
  | none => rfl
  | some t => simp [dd, (ds t hx).sm.imm]
theorem tb012_at {ns : List Int} {k : Int} {a0 b3 b4 b5 b6 b7 b8 b9 b10 b11 b12 b13 b14 : Sl} (hN : Ns ns) (hl : ns.length = 30) : ∃ (deeds : List (Option D)) (tries : List Int), FewR deeds tries ∧ (∀ t, some t ∈ deeds → SmI t) ∧
    ∀ g, sseq tb0_1 (sseq tb0_2 g) [a0, .fz (.int k), .fz (.list (ns.map .int)), b3, b4, b5, b6, b7, b8, b9, b10, b11, b12, b13, b14] = g [a0, .fz (.int k), .fz (.list (ns.map .int)), .fz (plD deeds tries), b4, b5, b6, b7, b8, b9, b10, b11, b12, b13, b14] := by
  obtain ⟨deeds, tr, ep, F, ds⟩ := small_at hN hl
  have im := imm_pl F.P
  have s1 : tb0_1 [a0, .fz (.int k), .fz (.list (ns.map .int)), b3, b4, b5, b6, b7, b8, b9, b10, b11, b12, b13, b14] = .nx [a0, .fz (.int k), .fz (.list (ns.map .int)), .fz (plD deeds tr), b4, b5, b6, b7, b8, b9, b10, b11, b12, b13, b14] := by
    generalize plD deeds tr = pl at *
    simp -implicitDefEqProofs [tb0_1, ep, im]
  by_cases hk : k = 1
  · have hT : ∀ x ∈ tr.take 1, 0 ≤ x ∧ x ≤ 3 := fun x hx => F.P.tk x (List.mem_of_mem_take hx)
    have hs : (tr.take 1).sum ≤ 3 := by
      cases tr with
      | nil => decide
      | cons x xs =>
        have := F.P.tk x List.mem_cons_self
        simp
        omega
    refine ⟨deeds, tr.take 1, few_of F.d4 ds (by have := F.P.tl; rw [List.length_take]; omega) hT hs, ds, fun g => ?_⟩
    have e0 : dIx (plD deeds tr) (.int 0) = .ok (.tuple (deeds.map dd)) := by simp [plD]
    have e1 : dIx (plD deeds tr) (.int 1) = .ok (.tuple (tr.map .int)) := by simp [plD]
    have ec : Bv.cutD (tr.map PyData.int) none (some 1) = (tr.take 1).map PyData.int := by rw [cut_lo _ (by decide), List.map_take]; rfl
    have imd := imm_dd ds
    have imx : immA ((tr.take 1).map PyData.int) = true := immA_ints _
    have s2 : tb0_2 [a0, .fz (.int k), .fz (.list (ns.map .int)), .fz (plD deeds tr), b4, b5, b6, b7, b8, b9, b10, b11, b12, b13, b14] = .nx [a0, .fz (.int k), .fz (.list (ns.map .int)), .fz (plD deeds (tr.take 1)), b4, b5, b6, b7, b8, b9, b10, b11, b12, b13, b14] := by
      have epl : plD deeds (tr.take 1) = .tuple [.tuple (deeds.map dd), .tuple ((tr.take 1).map .int)] := rfl
      rw [epl]
      generalize plD deeds tr = pl at *
      generalize (tr.take 1).map PyData.int = Y at *
      generalize deeds.map dd = X at *
      generalize tr.map PyData.int = TX at *
      simp -implicitDefEqProofs [tb0_2, tb0_2c, tb0_2x, hk, e0, e1, ec, imd, imx]
    rw [sseq_nx s1, sseq_nx s2]
  · refine ⟨deeds, tr, F, ds, fun g => ?_⟩
    have s2 : tb0_2 [a0, .fz (.int k), .fz (.list (ns.map .int)), .fz (plD deeds tr), b4, b5, b6, b7, b8, b9, b10, b11, b12, b13, b14] = .nx [a0, .fz (.int k), .fz (.list (ns.map .int)), .fz (plD deeds tr), b4, b5, b6, b7, b8, b9, b10, b11, b12, b13, b14] := by
      simp -implicitDefEqProofs [tb0_2, tb0_2c, tb0_2y, hk]
    rw [sseq_nx s1, sseq_nx s2]
theorem tb345_at {a0 a1 a2 b4 b5 b6 b7 b8 b9 b10 b11 b12 b13 b14 : Sl} (F : FewR deeds tries) (hT : ∀ t, some t ∈ deeds → isI t = true) : ∃ (E : List (D × D)) (Ls : List D) (ks : List Str) (c6 c7 : Sl), E.length ≤ 16000000 ∧ ks.Nodup ∧ AllT deeds tries ks ∧ ks ≠ [] ∧
    ∀ g, sseq tb0_3 (sseq tb0_4 (sseq tb0_5 (sseq tb0_6 g))) [a0, a1, a2, .fz (plD deeds tries), b4, b5, b6, b7, b8, b9, b10, b11, b12, b13, b14] = g [a0, a1, a2, .fz (plD deeds tries), .fz (.dict ((.none, .int 1) :: E)), .fz (.list Ls), c6, c7, .fz (.list ((sortS ks).map .str)), b9, b10, b11, b12, b13, b14] := by
  have S := sq_at F .good
  obtain ⟨E, Ls, e1, h⟩ := lall_at S
  have e1 : f_law_all [plD deeds tries, .str "good"] = .ok (.tuple [.dict ((.none, .int 1) :: E), .list Ls]) := e1
  have hlen := h.len S
  have few := S.few
  have hnum := h.num
  simp only [List.length_nil] at hnum
  have hL : ∀ d ∈ Ls, ∃ s, RS .good deeds tries s ∧ d = s.d 8 ∧ ∀ w, w ≤ tries.length → step .good deeds tries s w = none := fun d hd => by
    obtain ⟨a, _, c⟩ := (h.last d).mp hd
    obtain ⟨s, G, rfl⟩ := h.keys d a
    exact ⟨s, G, rfl, (lastq F.P G).mp c⟩
  obtain ⟨ρ', e2, Fd, ks, c7, rfl, hF, hA⟩ := forL_ix (b := bName 7) (g := tb0_5b) (xs := Ls) (k := 0) (ρ := [a0, a1, a2, .fz (plD deeds tries), .fz (.dict ((.none, .int 1) :: E)), .fz (.list Ls), .ow 1 (.dict [(.none, .int 0)]), b7, b8, b9, b10, b11, b12, b13, b14])
    (fun k ρ => ∃ Fd ks c7, ρ = [a0, a1, a2, .fz (plD deeds tries), .fz (.dict ((.none, .int 1) :: E)), .fz (.list Ls), .ow 1 (.dict ((.none, .int 0) :: Fd)), c7, b8, b9, b10, b11, b12, b13, b14] ∧ KI (fun t _ => ∃ e, IsEnd deeds tries e ∧ t = e.shown) k Fd ks ∧ ∀ d ∈ Ls.take k, ∃ s, RS .good deeds tries s ∧ d = s.d 8 ∧ (told s).shown ∈ ks)
    ⟨[], [], b7, rfl, ⟨rfl, by simp, by simp, by simp⟩, by simp⟩ (by
      rintro i d hi ρ ⟨Fd, ks, c7, rfl, hF, hA⟩
      rw [Nat.zero_add] at hF hA ⊢
      obtain ⟨s, G, rfl, hD⟩ := hL d (List.mem_of_getElem? hi)
      have hi2 := (List.getElem?_eq_some_iff.mp hi).1
      have len := hF.len
      obtain ⟨m0, rest, I, _⟩ := id G
      have et := told_repr F.P G.good
      have etb := law_told_at F.P I
      obtain ⟨ks', k1, k2, k3⟩ := ki_put hF (t := (told s).shown) (v := .bool true) ⟨_, ⟨s, G, hD, rfl⟩, rfl⟩
      refine ⟨_, [a0, a1, a2, .fz (plD deeds tries), .fz (.dict ((.none, .int 1) :: E)), .fz (.list Ls), .ow 1 (.dict ((.none, .int 0) :: storeK Fd (.inr (told s).shown) (.bool true))), .fz (s.d 8), b8, b9, b10, b11, b12, b13, b14], rfl, ?_, _, _, _, rfl, k1, fun d hd => ?_⟩
      · have hp : putD (.int 0) Fd (.str (told s).shown) (.bool true) = some (storeK Fd (.inr (told s).shown) (.bool true)) := rfl
        have hfs : Fd.length < 16000000 := by omega
        clear hL hA k1 k2 k3
        generalize (told s).shown = t at *
        generalize told s = T at *
        generalize s.d 8 = d at *
        generalize plD deeds tries = pl at *
        simp -implicitDefEqProofs [tb0_5b, dput, etb, et, hp, hfs]
      · rw [List.take_add_one, hi] at hd
        rcases List.mem_append.mp hd with hd | hd
        · obtain ⟨s', G', e', q⟩ := hA d hd
          exact ⟨s', G', e', k3 _ q⟩
        · have : d = s.d 8 := by simpa using hd
          exact ⟨s, G, this, k2⟩)
  rw [Nat.zero_add] at hF hA
  rw [List.take_length] at hA
  have hso := dSortedA_d ks Fd hF.kk
  have hall : AllT deeds tries ks := fun t => ⟨fun ht => let ⟨_, q⟩ := hF.q ht; q, fun ⟨e, he, et⟩ => by
    obtain ⟨s, G, hD, rfl⟩ := he
    have hd := rs_q F h G
    have hl : s.d 8 ∈ Ls := (h.last _).mpr ⟨hd, by simp, (lastq F.P G).mpr hD⟩
    obtain ⟨s2, G2, ed, q⟩ := hA _ hl
    obtain ⟨_, _, I, _⟩ := id G
    obtain ⟨_, _, I2, _⟩ := id G2
    have a1 := law_told_at F.P I
    have a2 := law_told_at F.P I2
    rw [ed, a2] at a1
    have : told s2 = told s := by injection a1
    rw [et, ← this]; exact q⟩
  have hks : ks ≠ [] := by
    obtain ⟨d, hd⟩ := List.exists_mem_of_ne_nil _ (some_last F hT h)
    obtain ⟨s, G, _, q⟩ := hA d hd
    exact fun z => by rw [z] at q; cases q
  refine ⟨E, Ls, ks, .fz (.dict ((.none, .int 0) :: Fd)), c7, by omega, hF.nd, hall, hks, fun g => ?_⟩
  have st3 : tb0_3 [a0, a1, a2, .fz (plD deeds tries), b4, b5, b6, b7, b8, b9, b10, b11, b12, b13, b14] = .nx [a0, a1, a2, .fz (plD deeds tries), .fz (.dict ((.none, .int 1) :: E)), .fz (.list Ls), b6, b7, b8, b9, b10, b11, b12, b13, b14] := by
    generalize plD deeds tries = pl at *
    simp -implicitDefEqProofs [tb0_3, untup_def, e1]
  have st4 : tb0_4 [a0, a1, a2, .fz (plD deeds tries), .fz (.dict ((.none, .int 1) :: E)), .fz (.list Ls), b6, b7, b8, b9, b10, b11, b12, b13, b14] = .nx [a0, a1, a2, .fz (plD deeds tries), .fz (.dict ((.none, .int 1) :: E)), .fz (.list Ls), .ow 1 (.dict [(.none, .int 0)]), b7, b8, b9, b10, b11, b12, b13, b14] := by
    simp -implicitDefEqProofs [tb0_4, asgDN]
  have st5 : tb0_5 [a0, a1, a2, .fz (plD deeds tries), .fz (.dict ((.none, .int 1) :: E)), .fz (.list Ls), .ow 1 (.dict [(.none, .int 0)]), b7, b8, b9, b10, b11, b12, b13, b14] = .nx [a0, a1, a2, .fz (plD deeds tries), .fz (.dict ((.none, .int 1) :: E)), .fz (.list Ls), .ow 1 (.dict ((.none, .int 0) :: Fd)), c7, b8, b9, b10, b11, b12, b13, b14] := by
    unfold tb0_5
    rw [sfor_def]
    simp -implicitDefEqProofs
    exact e2
  have frzo : ∀ (i : Nat) (b : Sl), i ≠ 6 → frz1 [6] i b = b := fun i b hi => by cases b <;> simp [hi]
  have st6 : tb0_6 [a0, a1, a2, .fz (plD deeds tries), .fz (.dict ((.none, .int 1) :: E)), .fz (.list Ls), .ow 1 (.dict ((.none, .int 0) :: Fd)), c7, b8, b9, b10, b11, b12, b13, b14] = .nx [a0, a1, a2, .fz (plD deeds tries), .fz (.dict ((.none, .int 1) :: E)), .fz (.list Ls), .fz (.dict ((.none, .int 0) :: Fd)), c7, .fz (.list ((sortS ks).map .str)), b9, b10, b11, b12, b13, b14] := by
    generalize (sortS ks).map PyData.str = T at *
    simp -implicitDefEqProofs [tb0_6, hso, frzo]
  rw [sseq_nx st3, sseq_nx st4, sseq_nx st5, sseq_nx st6]
theorem tb7_at {ns : List Int} {E : List (D × D)} {ks : List Str} {a0 a1 a5 a6 a7 b9 b10 b11 b12 b13 b14 : Sl} (hN : Ns ns) (hl : ns.length = 30) (F : FewR deeds tries) (nd : ks.Nodup) (hA : AllT deeds tries ks) (hne : ks ≠ []) (hE : E.length ≤ 16000000) :
    ∃ c9 c10 c11 c12 c13 c14, tb0_7 [a0, a1, .fz (.list (ns.map .int)), .fz (plD deeds tries), .fz (.dict ((.none, .int 1) :: E)), a5, a6, a7, .fz (.list ((sortS ks).map .str)), b9, b10, b11, b12, b13, b14] = .nx [a0, a1, .fz (.list (ns.map .int)), .fz (plD deeds tries), .fz (.dict ((.none, .int 1) :: E)), a5, a6, a7, .fz (.list ((sortS ks).map .str)), c9, c10, c11, c12, c13, c14] := by
  obtain ⟨rg, hrg⟩ : ∃ rg : List D, rng1 [.int (2 - (if ((1000 : Int) < E.length) then 1 else 0))] = .ok rg := by
    by_cases h : (1000 : Int) < E.length
    · exact ⟨rangeD 0 1, by rw [if_pos h]; show rng1 [.int 1] = _; rw [rng1_i, if_pos (rngOk_of (by decide) (by decide))]⟩
    · exact ⟨rangeD 0 2, by rw [if_neg h]; show rng1 [.int 2] = _; rw [rng1_i, if_pos (rngOk_of (by decide) (by decide))]⟩
  obtain ⟨ρ', e, c9, c10, c11, c12, c13, c14, rfl⟩ := forL_all (b := bName 9) (g := tb0_7b) (xs := rg) (ρ := [a0, a1, .fz (.list (ns.map .int)), .fz (plD deeds tries), .fz (.dict ((.none, .int 1) :: E)), a5, a6, a7, .fz (.list ((sortS ks).map .str)), b9, b10, b11, b12, b13, b14])
    (fun ρ => ∃ c9 c10 c11 c12 c13 c14, ρ = [a0, a1, .fz (.list (ns.map .int)), .fz (plD deeds tries), .fz (.dict ((.none, .int 1) :: E)), a5, a6, a7, .fz (.list ((sortS ks).map .str)), c9, c10, c11, c12, c13, c14]) ⟨_, _, _, _, _, _, rfl⟩ (by
      rintro d hd ρ ⟨c9, c10, c11, c12, c13, c14, rfl⟩
      obtain ⟨d10, d11, eb⟩ := turn_at (a0 := a0) (a1 := a1) (a4 := .fz (.dict ((.none, .int 1) :: E))) (a5 := a5) (a6 := a6) (a7 := a7) (a9 := .fz d) (b10 := c10) (b11 := c11) (b12 := c12) (b13 := c13) (b14 := c14) hN hl F nd hA hne
      exact ⟨_, _, rfl, eb, _, _, _, _, _, _, rfl⟩)
  refine ⟨c9, c10, c11, c12, c13, c14, ?_⟩
  unfold tb0_7
  rw [sforR_def, ← e]
  generalize (sortS ks).map PyData.str = T at *
  generalize plD deeds tries = pl at *
  clear e
  simp -implicitDefEqProofs [hE, hrg]
theorem lbody_at {sc : List Int} {k : Int} {b2 b3 b4 b5 b6 b7 b8 b9 b10 b11 b12 b13 b14 : Sl} (h0 : 0 ≤ k) (h1 : k ≤ 1000) :
    ∃ c2 c3 c4 c5 c6 c7 c8 c9 c10 c11 c12 c13 c14, tb0b [.fz (.list (sc.map .int)), .fz (.int k), b2, b3, b4, b5, b6, b7, b8, b9, b10, b11, b12, b13, b14] = .nx [.fz (.list (sc.map .int)), .fz (.int k), c2, c3, c4, c5, c6, c7, c8, c9, c10, c11, c12, c13, c14] := by
  obtain ⟨ns, hl, hN, e0⟩ := tb00_at (sc := sc) (k := k) (b2 := b2) (b3 := b3) (b4 := b4) (b5 := b5) (b6 := b6) (b7 := b7) (b8 := b8) (b9 := b9) (b10 := b10) (b11 := b11) (b12 := b12) (b13 := b13) (b14 := b14) h0 h1
  obtain ⟨deeds, tries, F, ds, e12⟩ := tb012_at (k := k) (a0 := .fz (.list (sc.map .int))) (b3 := b3) (b4 := b4) (b5 := b5) (b6 := b6) (b7 := b7) (b8 := b8) (b9 := b9) (b10 := b10) (b11 := b11) (b12 := b12) (b13 := b13) (b14 := b14) hN hl
  obtain ⟨E, Ls, ks, c6, c7, hE, nd, hA, hne, e3⟩ := tb345_at (a0 := .fz (.list (sc.map .int))) (a1 := .fz (.int k)) (a2 := .fz (.list (ns.map .int))) (b4 := b4) (b5 := b5) (b6 := b6) (b7 := b7) (b8 := b8) (b9 := b9) (b10 := b10) (b11 := b11) (b12 := b12) (b13 := b13) (b14 := b14) F fun t ht => (ds t ht).isI
  obtain ⟨c9, c10, c11, c12, c13, c14, e4⟩ := tb7_at (E := E) (a0 := .fz (.list (sc.map .int))) (a1 := .fz (.int k)) (a5 := .fz (.list Ls)) (a6 := c6) (a7 := c7) (b9 := b9) (b10 := b10) (b11 := b11) (b12 := b12) (b13 := b13) (b14 := b14) hN hl F nd hA hne hE
  exact ⟨_, _, _, _, _, _, _, _, _, _, _, _, _, (sseq_nx (g := sseq tb0_1 (sseq tb0_2 (sseq tb0_3 (sseq tb0_4 (sseq tb0_5 (sseq tb0_6 tb0_7)))))) e0).trans ((e12 _).trans ((e3 _).trans e4))⟩
theorem ends0 : f_endings [.tuple [.tuple [], .tuple []]] = .ok (.list [.tuple [.list [.list []], .list []]]) := by kernel_rfl
theorem deq0 : dEq (.list [.tuple [.list [.list []], .list []]]) (.list [.tuple [.list [.list []], .list []]]) = .ok (.bool true) := by kernel_rfl
theorem plain (ns : List Int) (h : ns.length ≤ 63) (hb : ∀ z ∈ ns, Builtin.Int.intBits z ≤ 1048576) : f_law [.list (ns.map .int)] = .ok (.bool true) := by
  have er : rng1 [.int 2] = .ok (rangeD 0 2) := by rw [rng1_i, if_pos (rngOk_of (by decide) (by decide))]
  obtain ⟨ρ', e, _⟩ := forL_ix (b := bName 1) (g := tb0b) (xs := rangeD 0 2) (k := 0) (ρ := entry 14 [.list (ns.map .int)])
    (fun _ ρ => ∃ b1 c2 c3 c4 c5 c6 c7 c8 c9 c10 c11 c12 c13 c14, ρ = [.fz (.list (ns.map .int)), b1, c2, c3, c4, c5, c6, c7, c8, c9, c10, c11, c12, c13, c14]) ⟨_, _, _, _, _, _, _, _, _, _, _, _, _, _, rfl⟩ (by
      rintro i d hi ρ ⟨b1, c2, c3, c4, c5, c6, c7, c8, c9, c10, c11, c12, c13, c14, rfl⟩
      have hi2 := (List.getElem?_eq_some_iff.mp hi).1
      rw [rangeD_len] at hi2
      have ed : d = .int (i : Nat) := by
        rw [rangeD_get hi2, Int.zero_add] at hi
        exact (Option.some.inj hi).symm
      subst ed
      obtain ⟨d2, d3, d4, d5, d6, d7, d8, d9, d10, d11, d12, d13, d14, eb⟩ := lbody_at (sc := ns) (k := (i : Nat)) (b2 := c2) (b3 := c3) (b4 := c4) (b5 := c5) (b6 := c6) (b7 := c7) (b8 := c8) (b9 := c9) (b10 := c10) (b11 := c11) (b12 := c12) (b13 := c13) (b14 := c14) (by omega) (by omega)
      exact ⟨_, _, rfl, eb, _, _, _, _, _, _, _, _, _, _, _, _, _, _, rfl⟩)
  unfold f_law
  rw [law_def]
  have e2 : tb0 (entry 14 [.list (ns.map .int)]) = .nx ρ' := by
    unfold tb0
    generalize rangeD 0 2 = rg at er e
    rw [sforR_def]
    simp -implicitDefEqProofs only [acons_def, cst_def, anil_def, Rv.bind_ok, er, Rv.st_ok]
    exact e
  rw [sseq_nx e2]
  simp -implicitDefEqProofs [tb1, ends0, deq0]
end K51


open PySem PySem.W PyProof.Rows in
set_option maxRecDepth 100000 in
set_option maxHeartbeats 0 in
theorem PySem.Challenge.cw_farend_k51_all_endings_holds : PySem.Challenge.rw_farend_k51_all_endings.Holds := by
  w_on; o_law; k_head; (case hw => w_witness2)
  k_fill
  refine Bv.walk_G (l := PySem.Challenge.rw_farend_k51_all_endings) (k := 7) rfl rfl ⟨by decide, by decide, by decide⟩ (fun w h Y => PySem.W.kIn_of Y) ?F K51.plain
  case F =>
    intro w mg h base KX G
    refine' K51.all_mk KX G ?a_first_state ?l_first_state ?c_first_state ?k_first_state ?a_ended ?l_ended ?c_ended ?k_ended ?a_lay ?l_lay ?c_lay ?k_lay ?a_take ?l_take ?c_take ?k_take ?a_attempt ?l_attempt ?c_attempt ?k_attempt ?a_moved ?l_moved ?c_moved ?k_moved ?a_told_by ?l_told_by ?c_told_by ?k_told_by ?a_need_size ?l_need_size ?c_need_size ?k_need_size ?a_steps_from ?l_steps_from ?c_steps_from ?k_steps_from ?a_gone_through ?l_gone_through ?c_gone_through ?k_gone_through ?a_endings ?l_endings ?c_endings ?k_endings ?a_law_mix ?l_law_mix ?c_law_mix ?k_law_mix ?a_law_digits ?l_law_digits ?c_law_digits ?k_law_digits ?a_law_at ?l_law_at ?c_law_at ?k_law_at ?a_law_first ?l_law_first ?c_law_first ?k_law_first ?a_law_take_part ?l_law_take_part ?c_law_take_part ?k_law_take_part ?a_law_try_part ?l_law_try_part ?c_law_try_part ?k_law_try_part ?a_law_small_step ?l_law_small_step ?c_law_small_step ?k_law_small_step ?a_law_told_by ?l_law_told_by ?c_law_told_by ?k_law_told_by ?a_law_play ?l_law_play ?c_law_play ?k_law_play ?a_law_all ?l_law_all ?c_law_all ?k_law_all ?a_law_small_play ?l_law_small_play ?c_law_small_play ?k_law_small_play ?a_law ?l_law ?c_law ?k_law ?gn_MOST_DEEDS ?gn_MOST_TRIES ?z_len ?z_list ?z_max ?z_sum ?z_range ?z_repr ?z_sorted ?z_abs ?z_int ?z_tuple ?z_min ?z_isinstance
    (case a_first_state => k_is)
    (case l_first_state => k_is)
    (case c_first_state => k_is)
    (case k_first_state => k_is)
    (case a_ended => k_is)
    (case l_ended => k_is)
    (case c_ended => k_is)
    (case k_ended => k_is)
    (case a_lay => k_is)
    (case l_lay => k_is)
    (case c_lay => k_is)
    (case k_lay => k_is)
    (case a_take => k_is)
    (case l_take => k_is)
    (case c_take => k_is)
    (case k_take => k_is)
    (case a_attempt => k_is)
    (case l_attempt => k_is)
    (case c_attempt => k_is)
    (case k_attempt => k_is)
    (case a_moved => k_is)
    (case l_moved => k_is)
    (case c_moved => k_is)
    (case k_moved => k_is)
    (case a_told_by => k_is)
    (case l_told_by => k_is)
    (case c_told_by => k_is)
    (case k_told_by => k_is)
    (case a_need_size => k_is)
    (case l_need_size => k_is)
    (case c_need_size => k_is)
    (case k_need_size => k_is)
    (case a_steps_from => k_is)
    (case l_steps_from => k_is)
    (case c_steps_from => k_is)
    (case k_steps_from => k_is)
    (case a_gone_through => k_is)
    (case l_gone_through => k_is)
    (case c_gone_through => k_is)
    (case k_gone_through => k_is)
    (case a_endings => k_is)
    (case l_endings => k_is)
    (case c_endings => k_is)
    (case k_endings => k_is)
    (case a_law_mix => k_is)
    (case l_law_mix => k_is)
    (case c_law_mix => k_is)
    (case k_law_mix => k_is)
    (case a_law_digits => k_is)
    (case l_law_digits => k_is)
    (case c_law_digits => k_is)
    (case k_law_digits => k_is)
    (case a_law_at => k_is)
    (case l_law_at => k_is)
    (case c_law_at => k_is)
    (case k_law_at => k_is)
    (case a_law_first => k_is)
    (case l_law_first => k_is)
    (case c_law_first => k_is)
    (case k_law_first => k_is)
    (case a_law_take_part => k_is)
    (case l_law_take_part => k_is)
    (case c_law_take_part => k_is)
    (case k_law_take_part => k_is)
    (case a_law_try_part => k_is)
    (case l_law_try_part => k_is)
    (case c_law_try_part => k_is)
    (case k_law_try_part => k_is)
    (case a_law_small_step => k_is)
    (case l_law_small_step => k_is)
    (case c_law_small_step => k_is)
    (case k_law_small_step => k_is)
    (case a_law_told_by => k_is)
    (case l_law_told_by => k_is)
    (case c_law_told_by => k_is)
    (case k_law_told_by => k_is)
    (case a_law_play => k_is)
    (case l_law_play => k_is)
    (case c_law_play => k_is)
    (case k_law_play => k_is)
    (case a_law_all => k_is)
    (case l_law_all => k_is)
    (case c_law_all => k_is)
    (case k_law_all => k_is)
    (case a_law_small_play => k_is)
    (case l_law_small_play => k_is)
    (case c_law_small_play => k_is)
    (case k_law_small_play => k_is)
    (case a_law => k_is)
    (case l_law => k_is)
    (case c_law => k_is)
    (case k_law => k_is)
    (case gn_MOST_DEEDS => k_is)
    (case gn_MOST_TRIES => k_is)
    (case z_len => k_is)
    (case z_list => k_is)
    (case z_max => k_is)
    (case z_sum => k_is)
    (case z_range => k_is)
    (case z_repr => k_is)
    (case z_sorted => k_is)
    (case z_abs => k_is)
    (case z_int => k_is)
    (case z_tuple => k_is)
    (case z_min => k_is)
    (case z_isinstance => k_is)
