import PyProof.Rows.All
import Wide.All
import OpenK.AllK
import Wide.FinOn
import HandS.ForMost
import HandS.ForExc
import HandS.Walk
import HandS.Lambda
import HandS.EndTab
import HandS.Style
import HandS.TupAny
import HandS.IsInst
import HandS.ExcIs
import HandS.More
import HandS.WrittenGet
import HandS.Small
import HandS.RaiseMore
import KE.DatumIndex
import HandS.TupMul
import KE.GoesEnum
import HandS.Dict
import HandS.HeadHook3
import PyProof.ExcBaseAll.ValueError
import HandS.HeadHook4
import HandS.HeadWalk
import PySem.Challenge.RW_firstgap_k00_whole_trees_judged
set_option Elab.async false
set_option linter.all false
set_option maxRecDepth 100000
set_option maxHeartbeats 4000000
/-! DL: readings over plain data. Own work. -/
namespace DL
open PySem PySem.Spec PyProof.Rows L2 LamX

abbrev AS := Addr → Prop
/-- no table of code objects -/
def NT (o : HO) : Prop := ∀ ps, o ≠ .tbl ps
theorem nt_tup {xs : List V} : NT (.tup xs) := fun _ h => nomatch h
theorem nt_lst {xs : List V} : NT (.lst xs) := fun _ h => nomatch h
theorem nt_dK {xs : List (Key × V)} : NT (.dK xs) := fun _ h => nomatch h
def kD : Key → PyData
  | .inl i => .int i
  | .inr x => .str x
def KTup (K : PySem.W.Frag) (a : Addr) (xs : List V) : Prop :=
  ∃ (o : Obj) (its : Array Value) (n : Nat), K.lookup a = some o ∧ o.cls = .type "tuple" ∧ o.data = .seq its n ∧ its.size ≤ sizeLine ∧ Vals xs its.toList

mutual
/-- the value stands for the datum; lists of it are none of O -/
inductive At (K : PySem.W.Frag) (O : AS) (H : Hp) : V → PyData → Prop
  | non : At K O H .non .none
  | bl (b : Bool) : At K O H (.bl b) (.bool b)
  | int (i : Int) : At K O H (.int i) (.int i)
  | str (x : Str) : At K O H (.str x) (.str x)
  | lst {a : Addr} {xs : List V} {ds : List PyData} : ¬ O a → H a = some (.lst xs) → Ats K O H xs ds → At K O H (.ref a) (.list ds)
  | tup {a : Addr} {xs : List V} {ds : List PyData} : ¬ O a → H a = some (.tup xs) → Ats K O H xs ds → At K O H (.ref a) (.tuple ds)
  | ktup {a : Addr} {xs : List V} {ds : List PyData} : KTup K a xs → Ats K O H xs ds → At K O H (.ref a) (.tuple ds)
  | dic {a : Addr} {kvs : List (Key × V)} {ds : List (PyData × PyData)} : ¬ O a → H a = some (.dK kvs) → AtKv K O H kvs ds → At K O H (.ref a) (.dict ds)
inductive Ats (K : PySem.W.Frag) (O : AS) (H : Hp) : List V → List PyData → Prop
  | nil : Ats K O H [] []
  | cons {v : V} {vs : List V} {d : PyData} {ds : List PyData} : At K O H v d → Ats K O H vs ds → Ats K O H (v :: vs) (d :: ds)
inductive AtKv (K : PySem.W.Frag) (O : AS) (H : Hp) : List (Key × V) → List (PyData × PyData) → Prop
  | nil : AtKv K O H [] []
  | cons {k : Key} {v : V} {vs : List (Key × V)} {d : PyData} {ds : List (PyData × PyData)} : At K O H v d → AtKv K O H vs ds → AtKv K O H ((k, v) :: vs) ((kD k, d) :: ds)
end

section
variable {K : PySem.W.Frag} {O O' : AS} {H H' : Hp} {v : V} {d : PyData} {vs : List V} {ds : List PyData}
theorem At.stepN (k : ∀ a o, ¬ O a → H a = some o → NT o → H' a = some o) (f : ∀ a o, O' a → H a = some o → NT o → O a) (h : At K O H v d) : At K O' H' v d := by
  refine At.rec (motive_1 := fun v d _ => At K O' H' v d) (motive_2 := fun vs ds _ => Ats K O' H' vs ds) (motive_3 := fun kvs ds _ => AtKv K O' H' kvs ds) ?_ ?_ ?_ ?_ ?_ ?_ ?_ ?_ ?_ ?_ ?_ ?_ h
  · exact .non
  · exact .bl
  · exact .int
  · exact .str
  · intro a xs ds n e _ ih
    exact .lst (fun z => n (f a _ z e nt_lst)) (k a _ n e nt_lst) ih
  · intro a xs ds n e _ ih
    exact .tup (fun z => n (f a _ z e nt_tup)) (k a _ n e nt_tup) ih
  · intro a xs ds n _ ih
    exact .ktup n ih
  · intro a xs ds n e _ ih
    exact .dic (fun z => n (f a _ z e nt_dK)) (k a _ n e nt_dK) ih
  · exact .nil
  · intro v vs d ds _ _ a b
    exact .cons a b
  · exact .nil
  · intro k v vs d ds _ _ a b
    exact .cons a b
theorem Ats.stepN (k : ∀ a o, ¬ O a → H a = some o → NT o → H' a = some o) (f : ∀ a o, O' a → H a = some o → NT o → O a) (h : Ats K O H vs ds) : Ats K O' H' vs ds := by
  induction vs generalizing ds with
  | nil => cases h; exact .nil
  | cons v vs ih =>
    cases h with
    | cons a b => exact .cons (a.stepN k f) (ih b)
theorem At.step (k : ∀ a o, ¬ O a → H a = some o → NT o → H' a = some o) (f : ∀ a o, O' a → H a = some o → O a) (h : At K O H v d) : At K O' H' v d := h.stepN k fun a o h e _ => f a o h e
theorem Ats.step (k : ∀ a o, ¬ O a → H a = some o → NT o → H' a = some o) (f : ∀ a o, O' a → H a = some o → O a) (h : Ats K O H vs ds) : Ats K O' H' vs ds := h.stepN k fun a o h e _ => f a o h e
theorem Ats.len (h : Ats K O H vs ds) : vs.length = ds.length := by
  induction vs generalizing ds with
  | nil => cases h; rfl
  | cons v vs ih =>
    cases h with
    | cons a b => simp [ih b]
theorem Ats.get {i : Nat} (h : Ats K O H vs ds) (e : ds[i]? = some d) : ∃ x, vs[i]? = some x ∧ At K O H x d := by
  induction vs generalizing ds i with
  | nil => cases h; simp at e
  | cons v vs ih =>
    cases h with
    | cons a b =>
      cases i with
      | zero => simp at e; subst e; exact ⟨v, rfl, a⟩
      | succ i => simp at e; simpa using ih b e
theorem Ats.get' {i : Nat} {x : V} (h : Ats K O H vs ds) (e : vs[i]? = some x) : ∃ d, ds[i]? = some d ∧ At K O H x d := by
  induction vs generalizing ds i with
  | nil => simp at e
  | cons v vs ih =>
    cases h with
    | cons a b =>
      cases i with
      | zero => simp at e; subst e; exact ⟨_, rfl, a⟩
      | succ i => simp at e; simpa using ih b e
theorem Ats.app {ws : List V} {es : List PyData} (h : Ats K O H vs ds) (g : Ats K O H ws es) : Ats K O H (vs ++ ws) (ds ++ es) := by
  induction vs generalizing ds with
  | nil => cases h; exact g
  | cons v vs ih =>
    cases h with
    | cons a b => exact .cons a (ih b)
theorem Ats.snoc (h : Ats K O H vs ds) (g : At K O H v d) : Ats K O H (vs ++ [v]) (ds ++ [d]) := h.app (.cons g .nil)
theorem Ats.take (n : Nat) (h : Ats K O H vs ds) : Ats K O H (vs.take n) (ds.take n) := by
  induction vs generalizing ds n with
  | nil => cases h; simp; exact .nil
  | cons v vs ih =>
    cases h with
    | cons a b =>
      cases n with
      | zero => exact .nil
      | succ n => exact .cons a (ih n b)
theorem Ats.drop (n : Nat) (h : Ats K O H vs ds) : Ats K O H (vs.drop n) (ds.drop n) := by
  induction vs generalizing ds n with
  | nil => cases h; simp; exact .nil
  | cons v vs ih =>
    cases h with
    | cons a b =>
      cases n with
      | zero => exact .cons a b
      | succ n => exact ih n b
theorem Ats.rev (h : Ats K O H vs ds) : Ats K O H vs.reverse ds.reverse := by
  induction vs generalizing ds with
  | nil => cases h; exact .nil
  | cons v vs ih =>
    cases h with
    | cons a b => rw [List.reverse_cons, List.reverse_cons]; exact (ih b).snoc a
theorem Ats.set (i : Nat) (h : Ats K O H vs ds) (g : At K O H v d) : Ats K O H (vs.set i v) (ds.set i d) := by
  induction vs generalizing ds i with
  | nil => cases h; exact .nil
  | cons v vs ih =>
    cases h with
    | cons a b =>
      cases i with
      | zero => exact .cons g b
      | succ i => exact .cons a (ih i b)
theorem Ats.erase (i : Nat) (h : Ats K O H vs ds) : Ats K O H (vs.eraseIdx i) (ds.eraseIdx i) := by
  induction vs generalizing ds i with
  | nil => cases h; exact .nil
  | cons v vs ih =>
    cases h with
    | cons a b =>
      cases i with
      | zero => exact b
      | succ i => exact .cons a (ih i b)
theorem Ats.dropLast (h : Ats K O H vs ds) : Ats K O H vs.dropLast ds.dropLast := by
  rw [List.dropLast_eq_take, List.dropLast_eq_take, h.len]
  exact h.take _
theorem Ats.rep (h : At K O H v d) (n : Nat) : Ats K O H (List.replicate n v) (List.replicate n d) := by
  induction n with
  | zero => exact .nil
  | succ n ih => exact .cons h ih
end

/-! ### what a slot holds -/
inductive G where
  | unk
  | raw (v : V)
  | frz (a : Addr) (xs : List V)
  | val (d : PyData)
  | own (p : Bool) (l : List PyData)
abbrev Gs := List G
/-- what a body's entry fixes: the heap there, what may change, what may not be shared, the changing arguments' places -/
structure Zc where
  B : Hp
  M : AS
  O : AS
  pa : Nat → Addr
/-- nothing but a table may stand there -/
def Fre (B : Hp) (a : Addr) : Prop := ∀ o, B a = some o → NT o → False
/-- a list that is read alone -/
def SlotF (K : PySem.W.Frag) (O : AS) (H : Hp) (w : Option V) (a : Addr) (xs : List V) : Prop := w = some (.ref a) ∧ ((¬ O a ∧ Rd H a (.lst xs)) ∨
    ∃ (o : Obj) (its : Array Value) (n : Nat), K.lookup a = some o ∧ o.cls = .type "list" ∧ o.dict = none ∧ o.data = .seq its n ∧ its.size ≤ sizeLine ∧ Vals xs its.toList)
theorem SlotF.stepN {K : PySem.W.Frag} {O O' : AS} {H H' : Hp} {w : Option V} {a : Addr} {xs : List V} (k : ∀ a o, ¬ O a → H a = some o → NT o → H' a = some o) (f : ∀ a o, O' a → H a = some o → NT o → O a) (h : SlotF K O H w a xs) : SlotF K O' H' w a xs :=
  ⟨h.1, h.2.elim (fun ⟨n, e⟩ => .inl (e.elim (fun e => ⟨fun z => n (f a _ z e nt_lst), .inl (k a _ n e nt_lst)⟩) fun ⟨o, e⟩ => ⟨fun z => n (f a _ z e fun _ q => nomatch q), .inr ⟨o, k a _ n e fun _ q => nomatch q⟩⟩)) .inr⟩
theorem SlotF.sq {K : PySem.W.Frag} {O : AS} {H : Hp} {w : Option V} {a : Addr} {xs : List V} (h : SlotF K O H w a xs) : SqL K H a xs := h.2.elim (fun ⟨_, e⟩ => .inl e) .inr
def SlotOk (K : PySem.W.Frag) (Z : Zc) (O : AS) (H : Hp) (i : Nat) (w : Option V) : G → Prop
  | .unk => True
  | .raw v => w = some v
  | .frz a xs => SlotF K O H w a xs
  | .val d => ∃ v, w = some v ∧ At K O H v d
  | .own p l => ∃ a xs, w = some (.ref a) ∧ O a ∧ H a = some (.lst xs) ∧ Ats K O H xs l ∧ (if p then a = Z.pa i ∧ Z.M a else Fre Z.B a)
structure SatA (K : PySem.W.Frag) (T : List (Addr × Str)) (Z : Zc) (O : AS) (Γ : Gs) (ws : L2.St) (H : Hp) : Prop where
  len : Γ.length = ws.length
  ok : ∀ (i : Nat) (g : G) (w : Option V), Γ[i]? = some g → ws[i]? = some w → SlotOk K Z O H i w g
  sep : ∀ (i j : Nat) (p q : Bool) (l m : List PyData) (a : Addr), Γ[i]? = some (.own p l) → Γ[j]? = some (.own q m) → ws[i]? = some (some (.ref a)) → ws[j]? = some (some (.ref a)) → i = j
  ext : ∀ a, Z.O a → O a
  zo : ∀ a, Z.O a → ¬ Fre Z.B a
  new : ∀ a, O a → Z.O a ∨ Fre Z.B a
  mo : ∀ a, Z.M a → Z.O a
  lst : ∀ a, O a → ∃ xs, H a = some (.lst xs)
  keep : ∀ a o, ¬ Z.M a → Z.B a = some o → NT o → H a = some o
  tabs : Tabs T H
def Sat (K : PySem.W.Frag) (T : List (Addr × Str)) (Z : Zc) (Γ : Gs) (ws : L2.St) (H : Hp) : Prop := ∃ O, SatA K T Z O Γ ws H

section
variable {K : PySem.W.Frag} {T : List (Addr × Str)} {Z : Zc} {O O' : AS} {H H' : Hp} {v : V} {d : PyData} {vs xs : List V} {ds l : List PyData} {Γ gs : Gs} {ws us : L2.St} {p a : Addr} {g : G}

theorem SlotOk.step {i : Nat} {w : Option V} (k : ∀ a o, ¬ O a → H a = some o → NT o → H' a = some o) (f : ∀ a o, O' a → H a = some o → O a)
    (k2 : ∀ a xs, O a → H a = some (.lst xs) → w = some (.ref a) → O' a ∧ H' a = some (.lst xs)) (h : SlotOk K Z O H i w g) : SlotOk K Z O' H' i w g := by
  cases g with
  | unk => trivial
  | raw v => exact h
  | frz b ys => exact SlotF.stepN k (fun a o h e _ => f a o h e) h
  | val d => obtain ⟨v, e, a⟩ := h; exact ⟨v, e, a.step k f⟩
  | own p l =>
    obtain ⟨a, xs, e, o, ha, hs, hp⟩ := h
    obtain ⟨o', ha'⟩ := k2 a xs o ha e
    exact ⟨a, xs, e, o', ha', hs.step k f, hp⟩

theorem SatA.take (S : SatA K T Z O (Γ ++ gs) (ws ++ us) H) (hl : Γ.length = ws.length) : SatA K T Z O Γ ws H where
  len := hl
  ok := fun i g w e1 e2 => by
    have h1 : i < Γ.length := (List.getElem?_eq_some_iff.mp e1).1
    exact S.ok i g w (by rw [List.getElem?_append_left h1]; exact e1) (by rw [List.getElem?_append_left (by omega)]; exact e2)
  sep := fun i j p q l m a e1 e2 e3 e4 => by
    have h1 : i < Γ.length := (List.getElem?_eq_some_iff.mp e1).1
    have h2 : j < Γ.length := (List.getElem?_eq_some_iff.mp e2).1
    exact S.sep i j p q l m a (by rw [List.getElem?_append_left h1]; exact e1) (by rw [List.getElem?_append_left h2]; exact e2) (by rw [List.getElem?_append_left (by omega)]; exact e3) (by rw [List.getElem?_append_left (by omega)]; exact e4)
  ext := S.ext
  zo := S.zo
  new := S.new
  mo := S.mo
  lst := S.lst
  keep := S.keep
  tabs := S.tabs
theorem Sat.take (S : Sat K T Z (Γ ++ gs) (ws ++ us) H) (hl : Γ.length = ws.length) : Sat K T Z Γ ws H := let ⟨O, S⟩ := S; ⟨O, S.take hl⟩

/-- one more at the end, its own condition given -/
theorem SatA.push {w : Option V} (S : SatA K T Z O Γ ws H) (h : SlotOk K Z O H Γ.length w g) (n : ∀ p l, g ≠ .own p l) : SatA K T Z O (Γ ++ [g]) (ws ++ [w]) H where
  len := by simp [S.len]
  ok := fun i g' w' e1 e2 => by
    by_cases hi : i < Γ.length
    · rw [List.getElem?_append_left hi] at e1
      rw [List.getElem?_append_left (by rw [← S.len]; exact hi)] at e2
      exact S.ok i g' w' e1 e2
    · have e : i = Γ.length := by
        have := (List.getElem?_eq_some_iff.mp e1).1
        simp at this; omega
      subst e
      simp at e1
      rw [S.len] at e2
      simp at e2
      subst e1; subst e2
      exact h
  sep := fun i j p q l m a e1 e2 e3 e4 => by
    have low : ∀ i p l, (Γ ++ [g])[i]? = some (.own p l) → i < Γ.length := fun i p l e => by
      by_cases hi : i < Γ.length
      · exact hi
      · have e' : i = Γ.length := by
          have := (List.getElem?_eq_some_iff.mp e).1
          simp at this; omega
        subst e'
        simp at e
        exact absurd e (n p l)
    have h1 := low i p l e1
    have h2 := low j q m e2
    have hl := S.len
    rw [List.getElem?_append_left h1] at e1
    rw [List.getElem?_append_left h2] at e2
    rw [List.getElem?_append_left (by omega)] at e3
    rw [List.getElem?_append_left (by omega)] at e4
    exact S.sep i j p q l m a e1 e2 e3 e4
  ext := S.ext
  zo := S.zo
  new := S.new
  mo := S.mo
  lst := S.lst
  keep := S.keep
  tabs := S.tabs
theorem SatA.val (S : SatA K T Z O Γ ws H) (h : At K O H v d) : SatA K T Z O (Γ ++ [.val d]) (ws ++ [some v]) H := S.push ⟨v, rfl, h⟩ fun _ _ z => nomatch z
theorem SatA.rawv (S : SatA K T Z O Γ ws H) : SatA K T Z O (Γ ++ [.raw v]) (ws ++ [some v]) H := S.push rfl fun _ _ z => nomatch z

theorem tabs_new {o : HO} (h : Tabs T H) (n : H p = none) : Tabs T (upd H p o) := h.ext fun b u e => by rw [upd_ne (ne_of_none e n)]; exact e
theorem tabs_lst {o : HO} (h : Tabs T H) (n : H p = some (.lst xs)) : Tabs T (upd H p o) := fun q hq => by
  obtain ⟨ps, h1, h2, h3⟩ := h q hq
  refine ⟨ps, ?_, h2, fun pos cv hc => ?_⟩
  · rw [upd_ne (ne_of h1 n (by intro z; cases z))]; exact h1
  · obtain ⟨c, e1, e2⟩ := h3 pos cv hc
    refine ⟨c, e1, ?_⟩
    rw [upd_ne (ne_of e2 n (by intro z; unfold CodeO at z; cases z))]; exact e2

/-- a new object that is no own list -/
theorem SatA.new1 {o : HO} (S : SatA K T Z O Γ ws H) (n : H p = none) : SatA K T Z O Γ ws (upd H p o) where
  len := S.len
  ok := fun i g w e1 e2 => (S.ok i g w e1 e2).step (fun a o _ e _ => by rw [upd_ne (ne_of_none e n)]; exact e) (fun a o h _ => h)
    (fun a xs h e _ => ⟨h, by rw [upd_ne (ne_of_none e n)]; exact e⟩)
  sep := S.sep
  ext := S.ext
  zo := S.zo
  new := S.new
  mo := S.mo
  lst := fun a h => by
    obtain ⟨xs, e⟩ := S.lst a h
    exact ⟨xs, by rw [upd_ne (ne_of_none e n)]; exact e⟩
  keep := fun a o m b t => by
    have e := S.keep a o m b t
    rw [upd_ne (ne_of_none e n)]; exact e
  tabs := tabs_new S.tabs n
theorem Ats.new1 {o : HO} (h : Ats K O H vs ds) (n : H p = none) : Ats K O (upd H p o) vs ds := h.step (fun a o _ e _ => by rw [upd_ne (ne_of_none e n)]; exact e) fun _ _ h _ => h
theorem At.new1 {o : HO} (h : At K O H v d) (n : H p = none) : At K O (upd H p o) v d := h.step (fun a o _ e _ => by rw [upd_ne (ne_of_none e n)]; exact e) fun _ _ h _ => h
theorem SatA.notO (S : SatA K T Z O Γ ws H) (n : H p = none) : ¬ O p := fun h => by
  obtain ⟨xs, e⟩ := S.lst p h
  rw [n] at e; cases e
/-- what is not known now was not known at the entry -/
theorem SatA.notB (S : SatA K T Z O Γ ws H) (n : H p = none) : Fre Z.B p := fun o e t => by
  by_cases m : Z.M p
  · exact absurd (S.ext p (S.mo p m)) (S.notO n)
  · have := S.keep p o m e t
    rw [n] at this; cases this
theorem SatA.tup (S : SatA K T Z O Γ ws H) (n : H p = none) (h : Ats K O H vs ds) : SatA K T Z O (Γ ++ [.val (.tuple ds)]) (ws ++ [some (.ref p)]) (upd H p (.tup vs)) :=
  (S.new1 n).val (.tup (S.notO n) upd_same (h.new1 n))
theorem SatA.list (S : SatA K T Z O Γ ws H) (n : H p = none) (h : Ats K O H vs ds) : SatA K T Z O (Γ ++ [.val (.list ds)]) (ws ++ [some (.ref p)]) (upd H p (.lst vs)) :=
  (S.new1 n).val (.lst (S.notO n) upd_same (h.new1 n))
end
end DL

namespace DL
open PySem PySem.Spec PyProof.Rows L2 LamX
section
variable {K : PySem.W.Frag} {T : List (Addr × Str)} {Z : Zc} {O O' : AS} {H H' : Hp} {v : V} {d : PyData} {vs xs : List V} {ds l l' : List PyData} {Γ gs : Gs} {ws us : L2.St} {p a : Addr} {g : G}

theorem get_app {α : Type} {Γ : List α} {g x : α} {i : Nat} (e : (Γ ++ [g])[i]? = some x) : (i < Γ.length ∧ Γ[i]? = some x) ∨ (i = Γ.length ∧ x = g) := by
  by_cases hi : i < Γ.length
  · rw [List.getElem?_append_left hi] at e
    exact .inl ⟨hi, e⟩
  · have e' : i = Γ.length := by
      have := (List.getElem?_eq_some_iff.mp e).1
      simp at this; omega
    subst e'
    simp at e
    exact .inr ⟨rfl, e.symm⟩
theorem SatA.at_ (S : SatA K T Z O Γ ws H) {i : Nat} (e : Γ[i]? = some g) : ∃ w, ws[i]? = some w ∧ SlotOk K Z O H i w g := by
  have h1 : i < ws.length := by rw [← S.len]; exact (List.getElem?_eq_some_iff.mp e).1
  exact ⟨ws[i], List.getElem?_eq_getElem h1, S.ok i g _ e (List.getElem?_eq_getElem h1)⟩
/-- a new list, owned -/
theorem SatA.ownL (S : SatA K T Z O Γ ws H) (n : H p = none) (h : Ats K O H vs ds) : SatA K T Z (fun a => O a ∨ a = p) (Γ ++ [.own false ds]) (ws ++ [some (.ref p)]) (upd H p (.lst vs)) := by
  have S1 := S.new1 (o := .lst vs) n
  have k : ∀ a o, ¬ O a → H a = some o → NT o → upd H p (.lst vs) a = some o := fun a o _ e _ => by rw [upd_ne (ne_of_none e n)]; exact e
  have f : ∀ a o, (O a ∨ a = p) → H a = some o → O a := fun a o h e => h.elim id fun z => by rw [z, n] at e; cases e
  have oldOk : ∀ i g w, Γ[i]? = some g → ws[i]? = some w → SlotOk K Z (fun a => O a ∨ a = p) (upd H p (.lst vs)) i w g := fun i g w e1 e2 =>
    (S.ok i g w e1 e2).step k f fun a xs h e _ => ⟨.inl h, by rw [upd_ne (ne_of_none e n)]; exact e⟩
  have hl := S.len
  refine ⟨by simp [hl], fun i g w e1 e2 => ?_, fun i j p1 p2 l m a e1 e2 e3 e4 => ?_, fun a h => .inl (S.ext a h), S.zo, fun a h => ?_, S.mo, fun a h => ?_, S1.keep, S1.tabs⟩
  · rcases get_app e1 with ⟨h1, h2⟩ | ⟨h1, h2⟩
    · rw [List.getElem?_append_left (by omega)] at e2
      exact oldOk i g w h2 e2
    · subst h2
      rw [h1, hl] at e2
      simp at e2
      subst e2
      exact ⟨p, vs, rfl, .inr rfl, upd_same, h.step k f, S.notB n⟩
  · have np : ∀ (i : Nat) (p : Bool) (l : List PyData) (a : Addr), Γ[i]? = some (.own p l) → ws[i]? = some (some (.ref a)) → H a ≠ none := fun i p l a h1 h2 => by
      obtain ⟨b, xs, e, _, hb, _⟩ := S.ok i _ _ h1 h2
      cases e
      rw [hb]; simp
    rcases get_app e1 with ⟨h1, h2⟩ | ⟨h1, h2⟩
    · rw [List.getElem?_append_left (by omega)] at e3
      rcases get_app e2 with ⟨h3, h4⟩ | ⟨h3, h4⟩
      · rw [List.getElem?_append_left (by omega)] at e4
        exact S.sep i j p1 p2 l m a h2 h4 e3 e4
      · rw [h3, hl] at e4
        simp at e4
        subst e4
        exact absurd n (np i p1 l _ h2 e3)
    · rw [h1, hl] at e3
      simp at e3
      rcases get_app e2 with ⟨h3, h4⟩ | ⟨h3, h4⟩
      · rw [List.getElem?_append_left (by omega)] at e4
        subst e3
        exact absurd n (np j p2 m _ h4 e4)
      · omega
  · rcases h with h | rfl
    · exact S.new a h
    · exact .inr (S.notB n)
  · rcases h with h | rfl
    · obtain ⟨xs, e⟩ := S.lst a h
      exact ⟨xs, by rw [upd_ne (ne_of_none e n)]; exact e⟩
    · exact ⟨_, upd_same⟩
/-- an own new list is shared from now on -/
theorem SatA.share (S : SatA K T Z O Γ ws H) {i : Nat} (e : Γ[i]? = some (.own false l)) : ∃ O', SatA K T Z O' (Γ.set i (.val (.list l))) ws H := by
  obtain ⟨w, e2, a, xs, ew, oa, ha, hs, hb⟩ := S.at_ e
  subst ew
  simp at hb
  have f : ∀ b (o : HO), (O b ∧ b ≠ a) → H b = some o → O b := fun b o h _ => h.1
  have k : ∀ b (o : HO), ¬ O b → H b = some o → NT o → H b = some o := fun b o _ h _ => h
  have hi : i < Γ.length := (List.getElem?_eq_some_iff.mp e).1
  refine ⟨fun b => O b ∧ b ≠ a, by simp [S.len], fun j g w e1 e2' => ?_, fun j j' p1 p2 l1 l2 b e1 e2 e3 e4 => ?_, fun b h => ⟨S.ext b h, fun z => S.zo b h (by rw [z]; exact hb)⟩, S.zo, fun b h => S.new b h.1, S.mo, fun b h => S.lst b h.1, S.keep, S.tabs⟩
  · by_cases hj : i = j
    · subst hj
      rw [List.getElem?_set_self hi] at e1
      cases e1
      rw [e2] at e2'
      cases e2'
      exact ⟨.ref a, rfl, .lst (fun z => z.2 rfl) ha (hs.step k f)⟩
    · rw [List.getElem?_set_ne hj] at e1
      have q := S.ok j g w e1 e2'
      cases g with
      | unk => trivial
      | raw v => exact q
      | frz b ys => exact SlotF.stepN k (fun a o h e _ => f a o h e) q
      | val d => obtain ⟨v, r, t⟩ := q; exact ⟨v, r, t.step k f⟩
      | own p m =>
        obtain ⟨b, ys, r, ob, hb', hs', hp⟩ := q
        refine ⟨b, ys, r, ⟨ob, fun z => ?_⟩, hb', hs'.step k f, hp⟩
        subst z; subst r
        exact hj (S.sep i j _ _ _ _ b e e1 e2 e2')
  · have n1 : i ≠ j := fun z => by subst z; rw [List.getElem?_set_self hi] at e1; cases e1
    have n2 : i ≠ j' := fun z => by subst z; rw [List.getElem?_set_self hi] at e2; cases e2
    rw [List.getElem?_set_ne n1] at e1
    rw [List.getElem?_set_ne n2] at e2
    exact S.sep j j' p1 p2 l1 l2 b e1 e2 e3 e4
/-- an own list changes -/
theorem SatA.mut (S : SatA K T Z O Γ ws H) {i : Nat} {q : Bool} (e : Γ[i]? = some (.own q l)) (e2 : ws[i]? = some (some (.ref a))) (h : Ats K O H vs l') : SatA K T Z O (Γ.set i (.own q l')) ws (upd H a (.lst vs)) := by
  obtain ⟨b, xs, ew, oa, ha, hs, hb⟩ := S.ok i _ _ e e2
  cases ew
  have hi : i < Γ.length := (List.getElem?_eq_some_iff.mp e).1
  have k : ∀ b (o : HO), ¬ O b → H b = some o → NT o → upd H a (.lst vs) b = some o := fun b o n h _ => by rw [upd_ne (fun (z : b = a) => n (by rw [z]; exact oa))]; exact h
  have f : ∀ b (o : HO), O b → H b = some o → O b := fun b o h _ => h
  refine ⟨by simp [S.len], fun j g w e1 e2' => ?_, fun j j' p1 p2 l1 l2 b e1 e2' e3 e4 => ?_, S.ext, S.zo, S.new, S.mo, fun b ob => ?_, fun b o m t n => ?_, tabs_lst S.tabs ha⟩
  · by_cases hj : i = j
    · subst hj
      rw [List.getElem?_set_self hi] at e1
      cases e1
      rw [e2] at e2'
      cases e2'
      exact ⟨a, vs, rfl, oa, upd_same, h.step k f, hb⟩
    · rw [List.getElem?_set_ne hj] at e1
      have t := S.ok j g w e1 e2'
      cases g with
      | unk => trivial
      | raw v => exact t
      | frz b ys => exact SlotF.stepN k (fun a o h e _ => f a o h e) t
      | val d => obtain ⟨v, r, t⟩ := t; exact ⟨v, r, t.step k f⟩
      | own p m =>
        obtain ⟨b, ys, r, ob, hb', hs', hp⟩ := t
        subst r
        have nb : b ≠ a := fun z => by subst z; exact hj (S.sep i j _ _ _ _ b e e1 e2 e2')
        exact ⟨b, ys, rfl, ob, by rw [upd_ne nb]; exact hb', hs'.step k f, hp⟩
  · have src : ∀ {j : Nat} {p : Bool} {m : List PyData}, (Γ.set i (.own q l'))[j]? = some (.own p m) → ∃ p' m', Γ[j]? = some (.own p' m') := fun {j p m} r => by
      by_cases hj : i = j
      · subst hj; exact ⟨_, _, e⟩
      · rw [List.getElem?_set_ne hj] at r; exact ⟨_, _, r⟩
    obtain ⟨p3, m3, r1⟩ := src e1
    obtain ⟨p4, m4, r2⟩ := src e2'
    exact S.sep j j' p3 p4 m3 m4 b r1 r2 e3 e4
  · by_cases z : b = a
    · subst z; exact ⟨vs, upd_same⟩
    · obtain ⟨ys, r⟩ := S.lst b ob
      exact ⟨ys, by rw [upd_ne z]; exact r⟩
  · have nb : b ≠ a := fun z => by
      subst z
      cases q with
      | true => exact m hb.2
      | false => exact (show Fre Z.B b from hb) _ t n
    rw [upd_ne nb]
    exact S.keep b o m t n
theorem SlotOk.move {i j : Nat} {w : Option V} (n : ∀ l, g ≠ .own true l) (h : SlotOk K Z O H i w g) : SlotOk K Z O H j w g := by
  cases g with
  | unk => trivial
  | raw v => exact h
  | frz b ys => exact h
  | val d => exact h
  | own p l =>
    cases p with
    | true => exact absurd rfl (n l)
    | false => exact h
theorem set_src {α : Type} {Γ gs : List α} {g x : α} {i j : Nat} (hi : i < Γ.length) (e : (Γ.set i g ++ gs)[j]? = some x) : (Γ ++ gs ++ [g])[if j = i then Γ.length + gs.length else j]? = some x := by
  by_cases hj : j = i
  · rw [if_pos hj]
    subst hj
    rw [List.getElem?_append_left (by simpa using hi), List.getElem?_set_self hi] at e
    rw [← List.length_append, List.getElem?_append_right (Nat.le_refl _), Nat.sub_self]
    exact e
  · rw [if_neg hj]
    have hlt : j < Γ.length + gs.length := by
      have := (List.getElem?_eq_some_iff.mp e).1
      simpa using this
    rw [List.getElem?_append_left (by simpa using hlt)]
    by_cases h1 : j < Γ.length
    · rw [List.getElem?_append_left (by simpa using h1), List.getElem?_set_ne (Ne.symm hj)] at e
      rw [List.getElem?_append_left h1]; exact e
    · rw [List.getElem?_append_right (by simpa using h1)] at e
      rw [List.getElem?_append_right (by omega)]
      simpa using e
/-- a result is stored in a slot -/
theorem SatA.store {i : Nat} {ts : L2.St} (S : SatA K T Z O (Γ ++ gs ++ [g]) (ws ++ ts ++ [some v]) H) (hl : Γ.length = ws.length) (hi : i < Γ.length) (n : ∀ l, g ≠ .own true l) : SatA K T Z O (Γ.set i g ++ gs) (ws.set i (some v) ++ ts) H := by
  have hlen := S.len
  simp only [List.length_append, List.length_singleton] at hlen
  have hg : gs.length = ts.length := by omega
  have inj : ∀ j j' : Nat, j < Γ.length + gs.length → j' < Γ.length + gs.length → (if j = i then Γ.length + gs.length else j) = (if j' = i then Γ.length + gs.length else j') → j = j' := fun j j' h1 h2 e => by
    split at e <;> split at e <;> omega
  have lt : ∀ {j : Nat} {x : G}, (Γ.set i g ++ gs)[j]? = some x → j < Γ.length + gs.length := fun {j x} e => by
    have := (List.getElem?_eq_some_iff.mp e).1
    simpa using this
  have src2 : ∀ {j : Nat} {w : Option V}, (ws.set i (some v) ++ ts)[j]? = some w → (ws ++ ts ++ [some v])[if j = i then Γ.length + gs.length else j]? = some w := fun {j w} e => by
    have := set_src (i := i) (by omega) e
    rw [hl, hg]; exact this
  refine ⟨by simp; omega, fun j x w e1 e2 => ?_, fun j j' p q l m a e1 e2 e3 e4 => inj j j' (lt e1) (lt e2) (S.sep _ _ p q l m a (set_src hi e1) (set_src hi e2) (src2 e3) (src2 e4)), S.ext, S.zo, S.new, S.mo, S.lst, S.keep, S.tabs⟩
  have q := S.ok _ x w (set_src hi e1) (src2 e2)
  by_cases hj : j = i
  · subst hj
    rw [if_pos rfl] at q
    rw [List.getElem?_append_left (by simpa using hi), List.getElem?_set_self hi] at e1
    cases e1
    exact q.move n
  · rw [if_neg hj] at q
    exact q
/-- a slot forgotten -/
theorem SatA.forget {i : Nat} (S : SatA K T Z O Γ ws H) : SatA K T Z O (Γ.set i .unk) ws H := by
  have src : ∀ {j : Nat} {x : G}, (Γ.set i .unk)[j]? = some x → x = .unk ∨ Γ[j]? = some x := fun {j x} e => by
    by_cases hj : i = j
    · subst hj
      have h1 : i < Γ.length := by
        have := (List.getElem?_eq_some_iff.mp e).1
        simpa using this
      rw [List.getElem?_set_self h1] at e
      cases e; exact .inl rfl
    · rw [List.getElem?_set_ne hj] at e; exact .inr e
  refine ⟨by simp [S.len], fun j x w e1 e2 => ?_, fun j j' p q l m a e1 e2 e3 e4 => ?_, S.ext, S.zo, S.new, S.mo, S.lst, S.keep, S.tabs⟩
  · rcases src e1 with rfl | h
    · trivial
    · exact S.ok j x w h e2
  · rcases src e1 with h | h1
    · cases h
    · rcases src e2 with h | h2
      · cases h
      · exact S.sep j j' p q l m a h1 h2 e3 e4
end

/-! ### results as data -/
def wd : G → (PyData → Prop) → Prop
  | .val d, k => k d
  | .own false l, k => k (.list l)
  | _, _ => False
def wds : Gs → (List PyData → Prop) → Prop
  | [], k => k []
  | g :: gs, k => wd g fun d => wds gs fun ds => k (d :: ds)
section
variable {K : PySem.W.Frag} {T : List (Addr × Str)} {Z : Zc} {H : Hp} {Γ : Gs} {ws : L2.St}
theorem wd_some {g : G} {k : PyData → Prop} (h : wd g k) : ∃ d, (g = .val d ∨ ∃ l, g = .own false l ∧ d = .list l) ∧ k d := by
  cases g with
  | val d => exact ⟨d, .inl rfl, h⟩
  | own p l =>
    cases p with
    | false => exact ⟨_, .inr ⟨l, rfl, rfl⟩, h⟩
    | true => exact h.elim
  | unk => exact h.elim
  | raw v => exact h.elim
  | frz b ys => exact h.elim
/-- the results taken as data -/
theorem Sat.args {rs : Gs} : ∀ {Γ : Gs} {ws : L2.St} {vs : List V} {k : List PyData → Prop}, Sat K T Z (Γ ++ rs) (ws ++ vs.map some) H → Γ.length = ws.length → wds rs k → ∃ O ds, SatA K T Z O Γ ws H ∧ Ats K O H vs ds ∧ k ds := by
  induction rs with
  | nil =>
    intro Γ ws vs k S hl h
    obtain ⟨O, S⟩ := S
    have e : vs = [] := by
      have := S.len
      simp at this
      exact List.length_eq_zero_iff.mp (by omega)
    subst e
    exact ⟨O, [], by simpa using S, .nil, h⟩
  | cons g rs ih =>
    intro Γ ws vs k S hl h
    have hlen : rs.length + 1 = vs.length := by
      obtain ⟨O, S⟩ := S
      have := S.len
      simp at this
      omega
    cases vs with
    | nil => simp at hlen
    | cons v vs =>
      obtain ⟨d, hg, hk⟩ := wd_some h
      have S2 : Sat K T Z (Γ ++ [.val d] ++ rs) (ws ++ [some v] ++ vs.map some) H := by
        obtain ⟨O, S⟩ := S
        rcases hg with rfl | ⟨l, rfl, rfl⟩
        · exact ⟨O, by simpa using S⟩
        · obtain ⟨O', S'⟩ := S.share (i := Γ.length) (l := l) (by simp)
          refine ⟨O', ?_⟩
          have e : (Γ ++ G.own false l :: rs).set Γ.length (.val (.list l)) = Γ ++ [.val (.list l)] ++ rs := by
            rw [List.set_append_right _ _ (Nat.le_refl _)]; simp
          rw [e] at S'
          simpa using S'
      obtain ⟨O, ds, S3, hs, hk⟩ := ih S2 (by simp [hl]) hk
      obtain ⟨w, e, q⟩ := S3.at_ (i := Γ.length) (g := .val d) (by simp)
      rw [hl] at e
      simp at e
      subst e
      obtain ⟨v', e, t⟩ := q
      cases e
      exact ⟨O, d :: ds, S3.take hl, .cons t hs, hk⟩
theorem Sat.arg1 {g : G} {v : V} {k : PyData → Prop} (S : Sat K T Z (Γ ++ [g]) (ws ++ [some v]) H) (hl : Γ.length = ws.length) (h : wd g k) : ∃ O d, SatA K T Z O Γ ws H ∧ At K O H v d ∧ k d := by
  obtain ⟨O, ds, S, hs, d, e, hk⟩ := Sat.args (rs := [g]) (vs := [v]) (k := fun ds => ∃ d, ds = [d] ∧ k d) S hl (by
    obtain ⟨d, _, _⟩ := wd_some h
    show wd g fun d => _
    cases g with
    | val d => exact ⟨_, rfl, h⟩
    | own p l => cases p with
      | false => exact ⟨_, rfl, h⟩
      | true => exact h.elim
    | unk => exact h.elim
    | raw v => exact h.elim
    | frz b ys => exact h.elim)
  subst e
  cases hs with
  | cons a b => exact ⟨O, d, S, a, hk⟩
end
end DL

namespace DL
open PySem PySem.Spec PyProof.Rows L2 LamX

abbrev GK := G → Gs → Prop
abbrev GX := Addr → Gs → Prop
/-- readings over data: an expression's, a test's, an argument list's -/
abbrev DT := Gs → GK → GX → Prop
abbrev DB := Gs → (Bool → Gs → Prop) → GX → Prop
abbrev DA := Gs → (Gs → Gs → Prop) → GX → Prop
/-- what is wanted behind a statement -/
structure DEnd where
  nx : Gs → Prop
  rt : G → Gs → Prop
  bk : Gs → Prop := fun _ => False
  ct : Gs → Prop := fun _ => False
  xc : GX := fun _ _ => False
abbrev DS := DEnd → Gs → Prop

section
variable (K : PySem.W.Frag) (T : List (Addr × Str)) (W : WX)
def XOk (Z : Zc) (ts : L2.St) (gs : Gs) (n : Nat) (R : GX) : Prop := ∀ c Γ' σ' H', R c Γ' → Γ'.length = n → σ'.length = n → Sat K T Z (Γ' ++ gs) (σ' ++ ts) H' → W (.ref c) none σ' H'
def RunE (te : TE) (t : DT) : Prop := ∀ (Z : Zc) (σ ts : L2.St) (gs Γ : Gs) (H : Hp) (Q : GK) (R : GX) (q : VK), Γ.length = σ.length → Sat K T Z (Γ ++ gs) (σ ++ ts) H → t Γ Q R →
  (∀ g Γ' v H', Q g Γ' → Γ'.length = σ.length → Sat K T Z (Γ' ++ gs ++ [g]) (σ ++ ts ++ [some v]) H' → q v H') → XOk K T W Z ts gs σ.length R → te σ H q
def RunB (te : TT) (t : DB) : Prop := ∀ (Z : Zc) (σ ts : L2.St) (gs Γ : Gs) (H : Hp) (Q : Bool → Gs → Prop) (R : GX) (q : Bool → Hp → Prop), Γ.length = σ.length → Sat K T Z (Γ ++ gs) (σ ++ ts) H → t Γ Q R →
  (∀ b Γ' H', Q b Γ' → Γ'.length = σ.length → Sat K T Z (Γ' ++ gs) (σ ++ ts) H' → q b H') → XOk K T W Z ts gs σ.length R → te σ H q
def RunA (te : TA) (t : DA) : Prop := ∀ (Z : Zc) (σ ts : L2.St) (gs Γ : Gs) (H : Hp) (Q : Gs → Gs → Prop) (R : GX) (q : List V → Hp → Prop), Γ.length = σ.length → Sat K T Z (Γ ++ gs) (σ ++ ts) H → t Γ Q R →
  (∀ rs Γ' vs H', Q rs Γ' → Γ'.length = σ.length → Sat K T Z (Γ' ++ gs ++ rs) (σ ++ ts ++ vs.map some) H' → q vs H') → XOk K T W Z ts gs σ.length R → te σ H q
structure EndsOk (Z : Zc) (ts : L2.St) (gs : Gs) (n : Nat) (D : DEnd) (E : Ends) : Prop where
  nx : ∀ Γ' σ' H', D.nx Γ' → Γ'.length = n → σ'.length = n → Sat K T Z (Γ' ++ gs) (σ' ++ ts) H' → E.nx σ' H'
  rt : ∀ g Γ' v σ' H', D.rt g Γ' → (∀ l, g ≠ .own true l) → Γ'.length = n → σ'.length = n → Sat K T Z (Γ' ++ gs ++ [g]) (σ' ++ ts ++ [some v]) H' → E.rt v H'
  bk : ∀ Γ' σ' H', D.bk Γ' → Γ'.length = n → σ'.length = n → Sat K T Z (Γ' ++ gs) (σ' ++ ts) H' → E.bk σ' H'
  ct : ∀ Γ' σ' H', D.ct Γ' → Γ'.length = n → σ'.length = n → Sat K T Z (Γ' ++ gs) (σ' ++ ts) H' → E.ct σ' H'
  xc : XOk K T W Z ts gs n D.xc
def RunS (tS : TS) (t : DS) : Prop := ∀ (Z : Zc) (σ ts : L2.St) (gs Γ : Gs) (H : Hp) (D : DEnd) (E : Ends), Γ.length = σ.length → Sat K T Z (Γ ++ gs) (σ ++ ts) H → t D Γ → EndsOk K T W Z ts gs σ.length D E → tS E σ H
/-- a store, by data -/
def RunG (tg : TG) (t : PyData → Gs → (Gs → Prop) → Prop) : Prop := ∀ (Z : Zc) (σ ts : L2.St) (gs Γ : Gs) (H : Hp) (O : AS) (v : V) (d : PyData) (Q : Gs → Prop) (q : L2.St → Hp → Prop), Γ.length = σ.length → SatA K T Z O (Γ ++ gs) (σ ++ ts) H → At K O H v d → t d Γ Q →
  (∀ Γ' σ' H', Q Γ' → Γ'.length = σ.length → σ'.length = σ.length → Sat K T Z (Γ' ++ gs) (σ' ++ ts) H' → q σ' H') → tg v σ H q
end
/-- the two together: the rule of the text, and what it says of data -/
structure DE (X : Cx) (T : List (Addr × Str)) (W : WX) (e : Expr) (te : TE) (t : DT) : Prop where
  pe : PE X e te
  run : RunE X.K T W te t
structure DTe (X : Cx) (T : List (Addr × Str)) (W : WX) (e : Expr) (te : TT) (t : DB) : Prop where
  pe : PT X e te
  run : RunB X.K T W te t
structure DW (X : Cx) (T : List (Addr × Str)) (W : WX) (e : Expr) (te : TT) (t : DB) : Prop where
  pe : PW X e te
  run : RunB X.K T W te t
structure DAs (X : Cx) (T : List (Addr × Str)) (W : WX) (es : List Expr) (te : TA) (t : DA) : Prop where
  pe : PA X es te
  run : RunA X.K T W te t
structure DSt (X : Cx) (T : List (Addr × Str)) (W : WX) (st : Stmt) (ts : TS) (t : DS) : Prop where
  pe : PS X st ts
  run : RunS X.K T W ts t
structure DSs (X : Cx) (T : List (Addr × Str)) (W : WX) (st : List Stmt) (ts : TS) (t : DS) : Prop where
  pe : PSs X st ts
  run : RunS X.K T W ts t
structure DG (X : Cx) (T : List (Addr × Str)) (tg : Expr) (g : TG) (t : PyData → Gs → (Gs → Prop) → Prop) : Prop where
  pe : PG X tg g
  run : RunG X.K T g t

section
variable {K : PySem.W.Frag} {T : List (Addr × Str)} {W : WX} {Z : Zc} {ta tb te : TE} {da db : DT} {tA : TA} {dA : DA} {tt tu : TT} {bt bu : DB}
theorem XOk.weak {ts : L2.St} {gs : Gs} {n : Nat} {R : GX} {v : V} {g : G} (h : XOk K T W Z ts gs n R) : XOk K T W Z (ts ++ [some v]) (gs ++ [g]) n R := fun c Γ' σ' H' r l1 l2 S =>
  h c Γ' σ' H' r l1 l2 (Sat.take (gs := [g]) (us := [some v]) (by simpa [List.append_assoc] using S) (by
    obtain ⟨O, S⟩ := S
    have := S.len
    simp at this ⊢
    omega))
/-- what an operation on two values says of data -/
def BinOk (K : PySem.W.Frag) (T : List (Addr × Str)) (r : R2) (f : PyData → PyData → (G → Prop) → Prop) : Prop := ∀ (Z : Zc) (O : AS) (Γ : Gs) (ws : L2.St) (H : Hp) (x y : V) (d e : PyData) (Q : G → Prop) (q : VK), SatA K T Z O Γ ws H → At K O H x d → At K O H y e → f d e Q →
  (∀ g v H', Q g → Sat K T Z (Γ ++ [g]) (ws ++ [some v]) H' → q v H') → r x y H q
def UnOk (K : PySem.W.Frag) (T : List (Addr × Str)) (r : V → Hp → VK → Prop) (f : PyData → (G → Prop) → Prop) : Prop := ∀ (Z : Zc) (O : AS) (Γ : Gs) (ws : L2.St) (H : Hp) (x : V) (d : PyData) (Q : G → Prop) (q : VK), SatA K T Z O Γ ws H → At K O H x d → f d Q →
  (∀ g v H', Q g → Sat K T Z (Γ ++ [g]) (ws ++ [some v]) H' → q v H') → r x H q
def ArgOk (K : PySem.W.Frag) (T : List (Addr × Str)) (r : List V → Hp → VK → Prop) (f : List PyData → (G → Prop) → Prop) : Prop := ∀ (Z : Zc) (O : AS) (Γ : Gs) (ws : L2.St) (H : Hp) (xs : List V) (ds : List PyData) (Q : G → Prop) (q : VK), SatA K T Z O Γ ws H → Ats K O H xs ds → f ds Q →
  (∀ g v H', Q g → Sat K T Z (Γ ++ [g]) (ws ++ [some v]) H' → q v H') → r xs H q
/-- a op b, by data -/
def dOp (f : PyData → PyData → (G → Prop) → Prop) (da db : DT) : DT := fun Γ Q R => da Γ (fun g1 Γ1 => db Γ1 (fun g2 Γ2 => wd g1 fun d1 => wd g2 fun d2 => f d1 d2 fun g => Q g Γ2) R) R
def dUn (f : PyData → (G → Prop) → Prop) (da : DT) : DT := fun Γ Q R => da Γ (fun g1 Γ1 => wd g1 fun d1 => f d1 fun g => Q g Γ1) R
def dCB (f : List PyData → (G → Prop) → Prop) (dA : DA) : DT := fun Γ Q R => dA Γ (fun rs Γ1 => wds rs fun ds => f ds fun g => Q g Γ1) R
theorem runE_op {r : R2} {f : PyData → PyData → (G → Prop) → Prop} (hr : BinOk K T r f) (ha : RunE K T W ta da) (hb : RunE K T W tb db) : RunE K T W (tOp r ta tb) (dOp f da db) := by
  intro Z σ ts gs Γ H Q R q hl hS h hq hx
  refine ha Z σ ts gs Γ H _ R _ hl hS h (fun g1 Γ1 v1 H1 h1 l1 S1 => ?_) hx
  refine hb Z σ (ts ++ [some v1]) (gs ++ [g1]) Γ1 H1 _ R _ l1 (by simpa [List.append_assoc] using S1) h1 (fun g2 Γ2 v2 H2 h2 l2 S2 => ?_) hx.weak
  have S3 : Sat K T Z (Γ2 ++ gs ++ [g1, g2]) (σ ++ ts ++ [v1, v2].map some) H2 := by simpa [List.append_assoc] using S2
  have hll : (Γ2 ++ gs).length = (σ ++ ts).length := by
    obtain ⟨O, S⟩ := S3
    have := S.len
    simp at this ⊢
    omega
  obtain ⟨O, ds, S4, hs, d1, d2, e, h3⟩ := S3.args (k := fun ds => ∃ d1 d2, ds = [d1, d2] ∧ f d1 d2 fun g => Q g Γ2) hll (by
    obtain ⟨d1, e1, k1⟩ := wd_some h2
    obtain ⟨d2, e2, k2⟩ := wd_some k1
    rcases e1 with rfl | ⟨_, rfl, rfl⟩ <;> rcases e2 with rfl | ⟨_, rfl, rfl⟩ <;> exact ⟨_, _, rfl, k2⟩)
  subst e
  cases hs with
  | cons a1 hs =>
    cases hs with
    | cons a2 hs =>
      exact hr Z O (Γ2 ++ gs) (σ ++ ts) H2 v1 v2 d1 d2 _ q S4 a1 a2 h3 fun g v H' hg S => hq g Γ2 v H' hg l2 S
theorem runE_un {r : V → Hp → VK → Prop} {f : PyData → (G → Prop) → Prop} (hr : UnOk K T r f) (ha : RunE K T W ta da) : RunE K T W (tUn r ta) (dUn f da) := by
  intro Z σ ts gs Γ H Q R q hl hS h hq hx
  refine ha Z σ ts gs Γ H _ R _ hl hS h (fun g1 Γ1 v1 H1 h1 l1 S1 => ?_) hx
  obtain ⟨O, d, S2, a1, h2⟩ := S1.arg1 (by
    obtain ⟨O, S⟩ := S1
    have := S.len
    simp at this ⊢
    omega) h1
  exact hr Z O (Γ1 ++ gs) (σ ++ ts) H1 v1 d _ q S2 a1 h2 fun g v H' hg S => hq g Γ1 v H' hg l1 S
theorem runE_cb {r : List V → Hp → VK → Prop} {f : List PyData → (G → Prop) → Prop} (hr : ArgOk K T r f) (ha : RunA K T W tA dA) : RunE K T W (tCB r tA) (dCB f dA) := by
  intro Z σ ts gs Γ H Q R q hl hS h hq hx
  refine ha Z σ ts gs Γ H _ R _ hl hS h (fun rs Γ1 vs H1 h1 l1 S1 => ?_) hx
  have hll : (Γ1 ++ gs).length = (σ ++ ts).length := by
    obtain ⟨O, S0⟩ := hS
    have := S0.len
    simp at this ⊢
    omega
  obtain ⟨O, ds, S2, hs, h2⟩ := S1.args hll h1
  exact hr Z O (Γ1 ++ gs) (σ ++ ts) H1 vs ds _ q S2 hs h2 fun g v H' hg S => hq g Γ1 v H' hg l1 S

/-! ### names and constants -/
/-- a name: data, or an own list that is shared from now on -/
def dVar (i : Nat) : DT := fun Γ Q _ => match Γ[i]? with
  | some (.val d) => Q (.val d) Γ
  | some (.own false l) => Q (.val (.list l)) (Γ.set i (.val (.list l)))
  | some (.raw v) => Q (.raw v) Γ
  | some (.frz a xs) => Q (.frz a xs) Γ
  | _ => False
theorem runE_var {i : Nat} : RunE K T W (tVar i) (dVar i) := by
  intro Z σ ts gs Γ H Q R q hl hS h hq hx
  unfold dVar at h
  obtain ⟨O, S⟩ := hS
  have key : ∀ {O' : AS} {Γ' : Gs} {d : PyData}, SatA K T Z O' (Γ' ++ gs) (σ ++ ts) H → Γ'.length = σ.length → Γ'[i]? = some (.val d) → Q (.val d) Γ' → tVar i σ H q := fun {O' Γ' d} S l e h => by
    have hi : i < Γ'.length := (List.getElem?_eq_some_iff.mp e).1
    obtain ⟨w, e2, v, rfl, t⟩ := S.at_ (i := i) (g := .val d) (by rw [List.getElem?_append_left hi]; exact e)
    rw [List.getElem?_append_left (by omega)] at e2
    exact ⟨v, e2, hq _ Γ' v H h l ⟨O', S.val t⟩⟩
  cases e : Γ[i]? with
  | none => rw [e] at h; exact h.elim
  | some g =>
    rw [e] at h
    have hi : i < Γ.length := (List.getElem?_eq_some_iff.mp e).1
    cases g with
    | unk => exact h.elim
    | val d => exact key S hl e h
    | raw v =>
      obtain ⟨w, e2, r⟩ := S.at_ (i := i) (g := .raw v) (by rw [List.getElem?_append_left hi]; exact e)
      rw [List.getElem?_append_left (by omega)] at e2
      cases r
      exact ⟨v, e2, hq _ Γ v H h hl ⟨O, S.rawv⟩⟩
    | frz a xs =>
      obtain ⟨w, e2, r⟩ := S.at_ (i := i) (g := .frz a xs) (by rw [List.getElem?_append_left hi]; exact e)
      rw [List.getElem?_append_left (by omega)] at e2
      obtain ⟨rfl, r2⟩ := r
      exact ⟨.ref a, e2, hq _ Γ _ H h hl ⟨O, S.push ⟨rfl, r2⟩ fun _ _ z => nomatch z⟩⟩
    | own p l =>
      cases p with
      | true => exact h.elim
      | false =>
        obtain ⟨O', S'⟩ := S.share (i := i) (l := l) (by rw [List.getElem?_append_left hi]; exact e)
        rw [List.set_append_left _ _ hi] at S'
        exact key S' (by simpa using hl) (by rw [List.getElem?_set_self hi]) h
def dC (d : PyData) : DT := fun Γ Q _ => Q (.val d) Γ
theorem runE_c {v : V} {d : PyData} (a : ∀ O H, At K O H v d) : RunE K T W (tC v) (dC d) := by
  intro Z σ ts gs Γ H Q R q hl hS h hq hx
  obtain ⟨O, S⟩ := hS
  exact hq _ Γ v H h hl ⟨O, S.val (a O H)⟩
def dRaw (v : V) : DT := fun Γ Q _ => Q (.raw v) Γ
theorem runE_raw {v : V} : RunE K T W (tC v) (dRaw v) := by
  intro Z σ ts gs Γ H Q R q hl hS h hq hx
  obtain ⟨O, S⟩ := hS
  exact hq _ Γ v H h hl ⟨O, S.rawv⟩

/-! ### argument lists, displays -/
def dNil : DA := fun Γ Q _ => Q [] Γ
def dCons (da : DT) (dA : DA) : DA := fun Γ Q R => da Γ (fun g Γ1 => dA Γ1 (fun rs Γ2 => Q (g :: rs) Γ2) R) R
theorem runA_nil : RunA K T W tNil dNil := by
  intro Z σ ts gs Γ H Q R q hl hS h hq hx
  exact hq [] Γ [] H h hl (by simpa using hS)
theorem runA_cons (ha : RunE K T W ta da) (hA : RunA K T W tA dA) : RunA K T W (tCons ta tA) (dCons da dA) := by
  intro Z σ ts gs Γ H Q R q hl hS h hq hx
  refine ha Z σ ts gs Γ H _ R _ hl hS h (fun g1 Γ1 v1 H1 h1 l1 S1 => ?_) hx
  refine hA Z σ (ts ++ [some v1]) (gs ++ [g1]) Γ1 H1 _ R _ l1 (by simpa [List.append_assoc] using S1) h1 (fun rs Γ2 vs H2 h2 l2 S2 => ?_) hx.weak
  exact hq (g1 :: rs) Γ2 (v1 :: vs) H2 h2 l2 (by simpa [List.append_assoc] using S2)
def dTup (dA : DA) : DT := fun Γ Q R => dA Γ (fun rs Γ1 => wds rs fun ds => ds.length ≤ sizeLine ∧ Q (.val (.tuple ds)) Γ1) R
def dLst (dA : DA) : DT := fun Γ Q R => dA Γ (fun rs Γ1 => wds rs fun ds => ds.length ≤ sizeLine ∧ Q (.own false ds) Γ1) R
theorem runE_tup (hA : RunA K T W tA dA) : RunE K T W (tTup tA) (dTup dA) := by
  intro Z σ ts gs Γ H Q R q hl hS h hq hx
  refine hA Z σ ts gs Γ H _ R _ hl hS h (fun rs Γ1 vs H1 h1 l1 S1 => ?_) hx
  have hll : (Γ1 ++ gs).length = (σ ++ ts).length := by
    obtain ⟨O, S0⟩ := hS
    have := S0.len
    simp at this ⊢
    omega
  obtain ⟨O, ds, S2, hs, hz, h2⟩ := S1.args hll h1
  exact ⟨by rw [hs.len]; exact hz, fun p hp => hq _ Γ1 _ _ h2 l1 ⟨O, S2.tup hp hs⟩⟩
theorem runE_lst (hA : RunA K T W tA dA) : RunE K T W (tLst tA) (dLst dA) := by
  intro Z σ ts gs Γ H Q R q hl hS h hq hx
  refine hA Z σ ts gs Γ H _ R _ hl hS h (fun rs Γ1 vs H1 h1 l1 S1 => ?_) hx
  have hll : (Γ1 ++ gs).length = (σ ++ ts).length := by
    obtain ⟨O, S0⟩ := hS
    have := S0.len
    simp at this ⊢
    omega
  obtain ⟨O, ds, S2, hs, hz, h2⟩ := S1.args hll h1
  exact ⟨by rw [hs.len]; exact hz, fun p hp => hq _ Γ1 _ _ h2 l1 ⟨_, S2.ownL hp hs⟩⟩

/-! ### tests -/
def dTest (da : DT) : DB := fun Γ Q R => da Γ (fun g Γ1 => wd g fun d => match d with
  | .bool b => Q b Γ1
  | _ => False) R
theorem runB_test (ha : RunE K T W ta da) : RunB K T W (tTest ta) (dTest da) := by
  intro Z σ ts gs Γ H Q R q hl hS h hq hx
  refine ha Z σ ts gs Γ H _ R _ hl hS h (fun g1 Γ1 v1 H1 h1 l1 S1 => ?_) hx
  obtain ⟨O, d, S2, a1, h2⟩ := S1.arg1 (by
    obtain ⟨O, S⟩ := S1
    have := S.len
    simp at this ⊢
    omega) h1
  cases a1 with
  | bl b => exact ⟨b, rfl, hq b Γ1 H1 h2 l1 ⟨O, S2⟩⟩
  | _ => exact h2.elim
theorem runB_B (ha : RunE K T W ta da) : RunB K T W (tB ta) (dTest da) := runB_test ha
def dAnd (t u : DB) : DB := fun Γ Q R => t Γ (fun b Γ1 => if b = true then u Γ1 Q R else Q false Γ1) R
def dOr (t u : DB) : DB := fun Γ Q R => t Γ (fun b Γ1 => if b = true then Q true Γ1 else u Γ1 Q R) R
def dNot (t : DB) : DB := fun Γ Q R => t Γ (fun b Γ1 => Q (!b) Γ1) R
theorem runB_and (h1 : RunB K T W tt bt) (h2 : RunB K T W tu bu) : RunB K T W (tAnd tt tu) (dAnd bt bu) := by
  intro Z σ ts gs Γ H Q R q hl hS h hq hx
  refine h1 Z σ ts gs Γ H _ R _ hl hS h (fun b Γ1 H1 k l1 S1 => ?_) hx
  cases b with
  | true => exact h2 Z σ ts gs Γ1 H1 Q R q l1 S1 k hq hx
  | false => exact hq false Γ1 H1 k l1 S1
theorem runB_or (h1 : RunB K T W tt bt) (h2 : RunB K T W tu bu) : RunB K T W (tOr tt tu) (dOr bt bu) := by
  intro Z σ ts gs Γ H Q R q hl hS h hq hx
  refine h1 Z σ ts gs Γ H _ R _ hl hS h (fun b Γ1 H1 k l1 S1 => ?_) hx
  cases b with
  | false => exact h2 Z σ ts gs Γ1 H1 Q R q l1 S1 k hq hx
  | true => exact hq true Γ1 H1 k l1 S1
theorem runB_not (h1 : RunB K T W tt bt) : RunB K T W (tNot tt) (dNot bt) := by
  intro Z σ ts gs Γ H Q R q hl hS h hq hx
  exact h1 Z σ ts gs Γ H _ R _ hl hS h (fun b Γ1 H1 k l1 S1 => hq (!b) Γ1 H1 k l1 S1) hx
/-- and, or, not as values, all flags -/
def dAndV (da db : DT) : DT := fun Γ Q R => da Γ (fun g Γ1 => wd g fun d => match d with
  | .bool b => if b = true then db Γ1 Q R else Q (.val (.bool false)) Γ1
  | _ => False) R
def dOrV (da db : DT) : DT := fun Γ Q R => da Γ (fun g Γ1 => wd g fun d => match d with
  | .bool b => if b = true then Q (.val (.bool true)) Γ1 else db Γ1 Q R
  | _ => False) R
def dNotV (da : DT) : DT := fun Γ Q R => da Γ (fun g Γ1 => wd g fun d => match d with
  | .bool b => Q (.val (.bool (!b))) Γ1
  | _ => False) R
theorem runE_andV (ha : RunE K T W ta da) (hb : RunE K T W tb db) : RunE K T W (tAndV ta tb) (dAndV da db) := by
  intro Z σ ts gs Γ H Q R q hl hS h hq hx
  refine ha Z σ ts gs Γ H _ R _ hl hS h (fun g1 Γ1 v1 H1 h1 l1 S1 => ?_) hx
  obtain ⟨O, d, S2, a1, h2⟩ := S1.arg1 (by
    obtain ⟨O, S⟩ := S1
    have := S.len
    simp at this ⊢
    omega) h1
  cases a1 with
  | bl b =>
    refine ⟨b, rfl, ?_⟩
    cases b with
    | true => exact hb Z σ ts gs Γ1 H1 Q R q l1 ⟨O, S2⟩ h2 hq hx
    | false => exact hq _ Γ1 _ H1 h2 l1 ⟨O, S2.val (.bl _)⟩
  | _ => exact h2.elim
theorem runE_orV (ha : RunE K T W ta da) (hb : RunE K T W tb db) : RunE K T W (tOrV ta tb) (dOrV da db) := by
  intro Z σ ts gs Γ H Q R q hl hS h hq hx
  refine ha Z σ ts gs Γ H _ R _ hl hS h (fun g1 Γ1 v1 H1 h1 l1 S1 => ?_) hx
  obtain ⟨O, d, S2, a1, h2⟩ := S1.arg1 (by
    obtain ⟨O, S⟩ := S1
    have := S.len
    simp at this ⊢
    omega) h1
  cases a1 with
  | bl b =>
    refine ⟨b, rfl, ?_⟩
    cases b with
    | false => exact hb Z σ ts gs Γ1 H1 Q R q l1 ⟨O, S2⟩ h2 hq hx
    | true => exact hq _ Γ1 _ H1 h2 l1 ⟨O, S2.val (.bl _)⟩
  | _ => exact h2.elim
theorem runE_notV (ha : RunE K T W ta da) : RunE K T W (tNotV ta) (dNotV da) := by
  intro Z σ ts gs Γ H Q R q hl hS h hq hx
  refine ha Z σ ts gs Γ H _ R _ hl hS h (fun g1 Γ1 v1 H1 h1 l1 S1 => ?_) hx
  obtain ⟨O, d, S2, a1, h2⟩ := S1.arg1 (by
    obtain ⟨O, S⟩ := S1
    have := S.len
    simp at this ⊢
    omega) h1
  cases a1 with
  | bl b => exact ⟨b, rfl, hq _ Γ1 _ H1 h2 l1 ⟨O, S2.val (.bl _)⟩⟩
  | _ => exact h2.elim
def dIf (t : DB) (da db : DT) : DT := fun Γ Q R => t Γ (fun b Γ1 => if b = true then da Γ1 Q R else db Γ1 Q R) R
theorem runE_if (ht : RunB K T W tt bt) (ha : RunE K T W ta da) (hb : RunE K T W tb db) : RunE K T W (tIf tt ta tb) (dIf bt da db) := by
  intro Z σ ts gs Γ H Q R q hl hS h hq hx
  refine ht Z σ ts gs Γ H _ R _ hl hS h (fun b Γ1 H1 k l1 S1 => ?_) hx
  cases b with
  | true => exact ha Z σ ts gs Γ1 H1 Q R q l1 S1 k hq hx
  | false => exact hb Z σ ts gs Γ1 H1 Q R q l1 S1 k hq hx
end
end DL

namespace DL
open PySem PySem.Spec PyProof.Rows L2 LamX

section
variable {K : PySem.W.Frag} {T : List (Addr × Str)} {W : WX} {O : AS} {H : Hp} {v : V} {d : PyData} {vs xs : List V} {ds : List PyData} {a : Addr}
/-! ### what a datum's value looks like -/
theorem At.sqt (h : At K O H (.ref a) (.tuple ds)) : ∃ xs, SqT K H a xs ∧ Ats K O H xs ds := by
  cases h with
  | tup _ e hs => exact ⟨_, SqT.of e, hs⟩
  | ktup e hs =>
    obtain ⟨o, its, n, h1, h2, h3, h4, h5⟩ := e
    exact ⟨_, .inr ⟨o, its, n, h1, h2, h3, h4, h5⟩, hs⟩
theorem At.ref_tup (h : At K O H v (.tuple ds)) : ∃ a xs, v = .ref a ∧ SqT K H a xs ∧ Ats K O H xs ds := by
  cases h with
  | tup n e hs => exact ⟨_, _, rfl, SqT.of e, hs⟩
  | ktup e hs =>
    obtain ⟨o, its, n, h1, h2, h3, h4, h5⟩ := e
    exact ⟨_, _, rfl, .inr ⟨o, its, n, h1, h2, h3, h4, h5⟩, hs⟩
theorem At.ref_lst (h : At K O H v (.list ds)) : ∃ a xs, v = .ref a ∧ H a = some (.lst xs) ∧ Ats K O H xs ds := by
  cases h with
  | lst n e hs => exact ⟨_, _, rfl, e, hs⟩
theorem Ats.ints {ns : List Int} (h : Ats K O H xs (ns.map PyData.int)) : xs = ns.map V.int := by
  induction ns generalizing xs with
  | nil => cases h; rfl
  | cons n ns ih =>
    cases h with
    | cons a b =>
      cases a
      rw [ih b]; rfl
theorem Ats.strs {ns : List Str} (h : Ats K O H xs (ns.map PyData.str)) : xs = ns.map V.str := by
  induction ns generalizing xs with
  | nil => cases h; rfl
  | cons n ns ih =>
    cases h with
    | cons a b =>
      cases a
      rw [ih b]; rfl
theorem Ats.bls {ns : List Bool} (h : Ats K O H xs (ns.map PyData.bool)) : xs = ns.map V.bl := by
  induction ns generalizing xs with
  | nil => cases h; rfl
  | cons n ns ih =>
    cases h with
    | cons a b =>
      cases a
      rw [ih b]; rfl
/-- the type's name -/
def pyT : PyData → String
  | .none => "NoneType" | .bool _ => "bool" | .int _ => "int" | .str _ => "str" | .list _ => "list" | .tuple _ => "tuple" | .dict _ => "dict"
theorem At.ty (h : At K O H v d) : TyX K H v (.type (pyT d)) := by
  cases h with
  | non => exact .base .non
  | bl b => exact .base (.bl b)
  | int i => exact .base (.int i)
  | str x => exact .base (.str x)
  | lst n e hs => exact .base (.lst e)
  | tup n e hs => exact .base (.tup e)
  | ktup e hs =>
    obtain ⟨o, its, n, h1, h2, h3, h4, h5⟩ := e
    exact .kTuple h1 h2
  | dic n e hs => exact .base (.dK e)
mutual
theorem At.dp : ∀ (d : PyData) (v : V), At K O H v d → d.canLay0 = true → Dp K H v d
  | .none, _, h, _ => by cases h; exact .non
  | .bool _, _, h, _ => by cases h; exact .bl _
  | .int _, _, h, _ => by cases h; exact .int _
  | .str _, _, h, _ => by cases h; exact .str _
  | .list ds, _, h, hc => by
    obtain ⟨a, xs, rfl, e, hs⟩ := h.ref_lst
    exact .lst (SqL.of e) (Ats.dp ds xs hs (by simpa [PyData.canLay0] using hc))
  | .tuple ds, _, h, hc => by
    obtain ⟨a, xs, rfl, e, hs⟩ := h.ref_tup
    exact .tup e (Ats.dp ds xs hs (by simpa [PyData.canLay0] using hc))
  | .dict _, _, _, hc => by simp [PyData.canLay0] at hc
theorem Ats.dp : ∀ (ds : List PyData) (vs : List V), Ats K O H vs ds → PyData.canLayAll0 ds = true → DpAll K H vs ds
  | [], _, h, _ => by cases h; exact .nil
  | d :: ds, _, h, hc => by
    have hc' : d.canLay0 = true ∧ PyData.canLayAll0 ds = true := by simpa [PyData.canLayAll0] using hc
    cases h with
    | cons a b => exact .cons (At.dp d _ a hc'.1) (Ats.dp ds _ b hc'.2)
end

/-! ### operators -/
def fAdd : PyData → PyData → (G → Prop) → Prop
  | .int i, .int j, Q => Q (.val (.int (i + j)))
  | .str i, .str j, Q => i.length + j.length ≤ sizeLine ∧ Q (.val (.str (i ++ j)))
  | .tuple i, .tuple j, Q => i.length + j.length ≤ sizeLine ∧ Q (.val (.tuple (i ++ j)))
  | .list i, .list j, Q => i.length + j.length ≤ sizeLine ∧ Q (.own false (i ++ j))
  | _, _, _ => False
def rAddA (K : PySem.W.Frag) : R2 := fun x y H Q => rI0 (fun i j => .int (i + j)) x y H Q ∨ (∃ i j, x = .str i ∧ y = .str j ∧ i.length + j.length ≤ sizeLine ∧ Q (.str (i ++ j)) H) ∨ rCatA K x y H Q ∨ rCat x y H Q
theorem op_addA {X : Cx} : OpR X (binaryOp .Add) (rAddA X.K) := op_add.or (op_add_str.or (op_catA.or op_cat))
theorem ok_add : BinOk K T (rAddA K) fAdd := by
  intro Z O Γ ws H x y d e Q q S ax ay h hq
  cases d with
  | int i =>
    cases e with
    | int j => cases ax; cases ay; exact .inl ⟨i, j, rfl, rfl, hq _ _ _ h ⟨O, S.val (.int _)⟩⟩
    | _ => exact h.elim
  | str i =>
    cases e with
    | str j => cases ax; cases ay; exact .inr (.inl ⟨i, j, rfl, rfl, h.1, hq _ _ _ h.2 ⟨O, S.val (.str _)⟩⟩)
    | _ => exact h.elim
  | tuple ds =>
    cases e with
    | tuple es =>
      have ax' := ax
      have ay' := ay
      obtain ⟨a, xs, rfl, ha, hs⟩ := ax.ref_tup
      obtain ⟨b, ys, rfl, hb, ht⟩ := ay.ref_tup
      refine .inr (.inr (.inl ⟨a, b, xs, ys, rfl, rfl, ha, hb, by rw [hs.len, ht.len]; exact h.1, fun z => ?_, fun _ z => ?_, fun _ _ p hp => hq _ _ _ h.2 ⟨O, S.tup hp (hs.app ht)⟩⟩))
      · subst z
        have hz := hs.len
        have hd : ds = [] := List.length_eq_zero_iff.mp (by simpa using hz.symm)
        subst hd
        exact hq _ _ _ h.2 ⟨O, S.val (by simpa using ay')⟩
      · subst z
        have hz := ht.len
        have hd : es = [] := List.length_eq_zero_iff.mp (by simpa using hz.symm)
        subst hd
        exact hq _ _ _ h.2 ⟨O, S.val (by simpa using ax')⟩
    | _ => exact h.elim
  | list ds =>
    cases e with
    | list es =>
      obtain ⟨a, xs, rfl, ha, hs⟩ := ax.ref_lst
      obtain ⟨b, ys, rfl, hb, ht⟩ := ay.ref_lst
      exact .inr (.inr (.inr ⟨a, b, xs, ys, rfl, rfl, ha, hb, by rw [hs.len, ht.len]; exact h.1, fun p hp => hq _ _ _ h.2 ⟨_, S.ownL hp (hs.app ht)⟩⟩))
    | _ => exact h.elim
  | _ => exact h.elim
/-- two ints -/
def fI (C : Int → Int → Prop) (g : Int → Int → PyData) : PyData → PyData → (G → Prop) → Prop
  | .int i, .int j, Q => C i j ∧ Q (.val (g i j))
  | _, _, _ => False
theorem ok_I {C : Int → Int → Prop} {g : Int → Int → PyData} {g' : Int → Int → V} (hg : ∀ i j O H, At K O H (g' i j) (g i j)) : BinOk K T (rI C g') (fI C g) := by
  intro Z O Γ ws H x y d e Q q S ax ay h hq
  cases d with
  | int i =>
    cases e with
    | int j => cases ax; cases ay; exact ⟨i, j, rfl, rfl, h.1, hq _ _ _ h.2 ⟨O, S.val (hg i j O H)⟩⟩
    | _ => exact h.elim
  | _ => exact h.elim
def fI0 (g : Int → Int → PyData) : PyData → PyData → (G → Prop) → Prop
  | .int i, .int j, Q => Q (.val (g i j))
  | _, _, _ => False
theorem ok_I0 {g : Int → Int → PyData} {g' : Int → Int → V} (hg : ∀ i j O H, At K O H (g' i j) (g i j)) : BinOk K T (rI0 g') (fI0 g) := by
  intro Z O Γ ws H x y d e Q q S ax ay h hq
  cases d with
  | int i =>
    cases e with
    | int j => cases ax; cases ay; exact ⟨i, j, rfl, rfl, hq _ _ _ h ⟨O, S.val (hg i j O H)⟩⟩
    | _ => exact h.elim
  | _ => exact h.elim
/-- list * int, tuple * int, int * int -/
def fMul : PyData → PyData → (G → Prop) → Prop
  | .int i, .int j, Q => CMul i j ∧ Q (.val (.int (i * j)))
  | .list l, .int k, Q => -(2 ^ 63) ≤ k ∧ k < 2 ^ 63 ∧ l.length * k.toNat ≤ sizeLine ∧ Q (.own false (List.replicate k.toNat l).flatten)
  | .tuple l, .int k, Q => l ≠ [] ∧ 2 ≤ k ∧ k ≤ 1000 ∧ l.length ≤ 1000 ∧ Q (.val (.tuple (List.replicate k.toNat l).flatten))
  | _, _, _ => False
def rMulA (K : PySem.W.Frag) : R2 := fun x y H Q => rI CMul (fun i j => .int (i * j)) x y H Q ∨ rRep x y H Q ∨ rRepT K x y H Q
theorem op_mulA {X : Cx} : OpR X (binaryOp .Mult) (rMulA X.K) := op_mul.or (op_rep.or op_repT)
theorem Ats.repl (h : Ats K O H xs ds) (k : Nat) : Ats K O H (List.replicate k xs).flatten (List.replicate k ds).flatten := by
  induction k with
  | zero => exact .nil
  | succ k ih => rw [List.replicate_succ, List.replicate_succ, List.flatten_cons, List.flatten_cons]; exact h.app ih
theorem ok_mul : BinOk K T (rMulA K) fMul := by
  intro Z O Γ ws H x y d e Q q S ax ay h hq
  cases e with
  | int j =>
    cases ay
    cases d with
    | int i => cases ax; exact .inl ⟨i, j, rfl, rfl, h.1, hq _ _ _ h.2 ⟨O, S.val (.int _)⟩⟩
    | list ds =>
      obtain ⟨a, xs, rfl, ha, hs⟩ := ax.ref_lst
      obtain ⟨h1, h2, h3, h4⟩ := h
      exact .inr (.inl ⟨a, j, xs, rfl, rfl, ha, h1, h2, by rw [hs.len]; exact h3, fun p hp => hq _ _ _ h4 ⟨_, S.ownL hp (hs.repl _)⟩⟩)
    | tuple ds =>
      obtain ⟨a, xs, rfl, ha, hs⟩ := ax.ref_tup
      obtain ⟨h1, h2, h3, h4, h5⟩ := h
      exact .inr (.inr ⟨a, j, xs, rfl, rfl, ha, fun z => h1 (by
        subst z
        have := hs.len
        exact List.length_eq_zero_iff.mp (by simpa using this.symm)), h2, h3, by rw [hs.len]; exact h4, fun p hp => hq _ _ _ h5 ⟨O, S.tup hp (hs.repl _)⟩⟩)
    | _ => exact h.elim
  | _ => cases d <;> exact h.elim
/-- == -/
def scalD : PyData → PyData → Bool
  | .none, .none => true | .none, .int _ => true | .int _, .none => true | .none, .bool _ => true | .bool _, .none => true | .none, .str _ => true | .str _, .none => true
  | .int _, .int _ => true | .bool _, .bool _ => true | .str _, .str _ => true
  | .int _, .str _ => true | .str _, .int _ => true | .bool _, .str _ => true | .str _, .bool _ => true
  | _, _ => false
/-- are two scalars the same -/
def eqS : PyData → PyData → Bool
  | .none, .none => true
  | .int i, .int j => decide (i = j)
  | .bool i, .bool j => decide (i = j)
  | .str i, .str j => decide (i = j)
  | _, _ => false
def fEq (d e : PyData) (Q : G → Prop) : Prop := if scalD d e = true then Q (.val (.bool (eqS d e))) else SeqAt.shaped d = true ∧ SeqAt.shaped e = true ∧ Q (.val (.bool (PyData.eqv d e)))
def fNe (d e : PyData) (Q : G → Prop) : Prop := if scalD d e = true then Q (.val (.bool (!eqS d e))) else SeqAt.shaped d = true ∧ SeqAt.shaped e = true ∧ Q (.val (.bool (!PyData.eqv d e)))
theorem scal_of {x y : V} {d e : PyData} (ax : At K O H x d) (ay : At K O H y e) (h : scalD d e = true) : scal x y = true ∧ eqS d e = decide (x = y) := by
  cases d <;> cases e <;> first | (simp [scalD] at h; done) | (cases ax; cases ay; simp [scal, eqS])
def rEqA (K : PySem.W.Frag) : R2 := fun x y H Q => rEq x y H Q ∨ rEqD K x y H Q
def rNeA (K : PySem.W.Frag) : R2 := fun x y H Q => rNe x y H Q ∨ rNeD K x y H Q
theorem op_eqA {X : Cx} (hu : X.A.units + 64 < cLine) : OpR X (compareOp .Eq) (rEqA X.K) := op_eq.or (op_eqD hu)
theorem op_neA {X : Cx} (hu : X.A.units + 64 < cLine) : OpR X (compareOp .NotEq) (rNeA X.K) := op_ne.or (op_neD hu)
theorem shaped_lay {d : PyData} (h : SeqAt.shaped d = true) : d.canLay0 = true := by
  unfold SeqAt.shaped at h
  simp only [Bool.and_eq_true] at h
  exact h.1
theorem ok_eq : BinOk K T (rEqA K) fEq := by
  intro Z O Γ ws H x y d e Q q S ax ay h hq
  unfold fEq at h
  by_cases c : scalD d e = true
  · rw [if_pos c] at h
    obtain ⟨h1, h2⟩ := scal_of ax ay c
    exact .inl ⟨h1, hq _ _ _ h ⟨O, S.val (by rw [h2]; exact .bl _)⟩⟩
  · rw [if_neg c] at h
    obtain ⟨s1, s2, h⟩ := h
    exact .inr ⟨d, e, ax.dp d x (shaped_lay s1), ay.dp e y (shaped_lay s2), s1, s2, hq _ _ _ h ⟨O, S.val (.bl _)⟩⟩
theorem ok_ne : BinOk K T (rNeA K) fNe := by
  intro Z O Γ ws H x y d e Q q S ax ay h hq
  unfold fNe at h
  by_cases c : scalD d e = true
  · rw [if_pos c] at h
    obtain ⟨h1, h2⟩ := scal_of ax ay c
    exact .inl ⟨h1, hq _ _ _ h ⟨O, S.val (by rw [h2]; exact .bl _)⟩⟩
  · rw [if_neg c] at h
    obtain ⟨s1, s2, h⟩ := h
    exact .inr ⟨d, e, ax.dp d x (shaped_lay s1), ay.dp e y (shaped_lay s2), s1, s2, hq _ _ _ h ⟨O, S.val (.bl _)⟩⟩
/-- < of ints and of texts -/
def fLt : PyData → PyData → (G → Prop) → Prop
  | .int i, .int j, Q => Q (.val (.bool (decide (i < j))))
  | .str i, .str j, Q => Q (.val (.bool (decide (i.cps.toList < j.cps.toList))))
  | _, _, _ => False
def rLtA : R2 := fun x y H Q => rI0 (fun i j => .bl (decide (i < j))) x y H Q ∨ ∃ i j, x = .str i ∧ y = .str j ∧ Q (.bl (decide (i.cps.toList < j.cps.toList))) H
theorem op_ltA {X : Cx} : OpR X (compareOp .Lt) rLtA := op_lt.or op_lt_str
theorem ok_lt : BinOk K T rLtA fLt := by
  intro Z O Γ ws H x y d e Q q S ax ay h hq
  cases d with
  | int i =>
    cases e with
    | int j => cases ax; cases ay; exact .inl ⟨i, j, rfl, rfl, hq _ _ _ h ⟨O, S.val (.bl _)⟩⟩
    | _ => exact h.elim
  | str i =>
    cases e with
    | str j => cases ax; cases ay; exact .inr ⟨i, j, rfl, rfl, hq _ _ _ h ⟨O, S.val (.bl _)⟩⟩
    | _ => exact h.elim
  | _ => exact h.elim
/-- is of flags -/
def fIsB (neg : Bool) : PyData → PyData → (G → Prop) → Prop
  | .bool a, .bool b, Q => Q (.val (.bool (if neg then !decide (a = b) else decide (a = b))))
  | _, _, _ => False
theorem ok_isB : BinOk K T rIsB (fIsB false) := by
  intro Z O Γ ws H x y d e Q q S ax ay h hq
  cases d with
  | bool i =>
    cases e with
    | bool j => cases ax; cases ay; exact ⟨i, j, rfl, rfl, hq _ _ _ h ⟨O, S.val (.bl _)⟩⟩
    | _ => exact h.elim
  | _ => exact h.elim
theorem ok_notB : BinOk K T rNotB (fIsB true) := by
  intro Z O Γ ws H x y d e Q q S ax ay h hq
  cases d with
  | bool i =>
    cases e with
    | bool j => cases ax; cases ay; exact ⟨i, j, rfl, rfl, hq _ _ _ h ⟨O, S.val (.bl _)⟩⟩
    | _ => exact h.elim
  | _ => exact h.elim
/-- is None, is not None: of any result -/
def isNo : PyData → Bool
  | .none => true
  | _ => false
theorem ok_isN : BinOk K T (fun x y H Q => y = .non ∧ Q (.bl (decide (x = .non))) H) (fun d e Q => e = .none ∧ Q (.val (.bool (isNo d)))) := by
  intro Z O Γ ws H x y d e Q q S ax ay h hq
  obtain ⟨rfl, h⟩ := h
  cases ay
  refine ⟨rfl, hq _ _ _ h ⟨O, S.val ?_⟩⟩
  cases ax <;> exact .bl _
theorem ok_notN : BinOk K T (fun x y H Q => y = .non ∧ Q (.bl (!decide (x = .non))) H) (fun d e Q => e = .none ∧ Q (.val (.bool (!isNo d)))) := by
  intro Z O Γ ws H x y d e Q q S ax ay h hq
  obtain ⟨rfl, h⟩ := h
  cases ay
  refine ⟨rfl, hq _ _ _ h ⟨O, S.val ?_⟩⟩
  cases ax <;> exact .bl _
/-! ### subscripts -/
def fIx : PyData → PyData → (G → Prop) → Prop
  | .list l, .int i, Q => ∃ d, atI l i = some d ∧ Q (.val d)
  | .tuple l, .int i, Q => ∃ d, atI l i = some d ∧ Q (.val d)
  | .str z, .int i, Q => z.length ≤ sizeLine ∧ ∃ c, atI z.cps.toList i = some c ∧ Q (.val (.str ⟨#[c]⟩))
  | _, _, _ => False
theorem Ats.atI {i : Int} (h : Ats K O H xs ds) (e : L2.atI ds i = some d) : ∃ x, L2.atI xs i = some x ∧ At K O H x d := by
  unfold L2.atI at e ⊢
  rw [h.len]
  cases j : ixN ds.length i with
  | none => rw [j] at e; cases e
  | some j' =>
    rw [j] at e
    exact h.get e
theorem ok_ix : BinOk K T (rIx K) fIx := by
  intro Z O Γ ws H x y d e Q q S ax ay h hq
  cases e with
  | int i =>
    cases ay
    cases d with
    | list l =>
      obtain ⟨a, xs, rfl, ha, hs⟩ := ax.ref_lst
      obtain ⟨c, hc, h⟩ := h
      obtain ⟨z, hz, t⟩ := hs.atI hc
      exact .inl ⟨a, xs, i, z, rfl, rfl, SqL.of ha, hz, hq _ _ _ h ⟨O, S.val t⟩⟩
    | tuple l =>
      obtain ⟨a, xs, rfl, ha, hs⟩ := ax.ref_tup
      obtain ⟨c, hc, h⟩ := h
      obtain ⟨z, hz, t⟩ := hs.atI hc
      exact .inr (.inl ⟨a, xs, i, z, rfl, rfl, ha, hz, hq _ _ _ h ⟨O, S.val t⟩⟩)
    | str z =>
      cases ax
      obtain ⟨hz, c, hc, h⟩ := h
      exact .inr (.inr ⟨z, i, c, rfl, rfl, hz, hc, hq _ _ _ h ⟨O, S.val (.str _)⟩⟩)
    | _ => exact h.elim
  | _ => cases d <;> exact h.elim
/-! ### slices -/
abbrev DO := Gs → (Option Int → Gs → Prop) → GX → Prop
def RunO (K : PySem.W.Frag) (T : List (Addr × Str)) (W : WX) (te : TO) (t : DO) : Prop := ∀ (Z : Zc) (σ ts : L2.St) (gs Γ : Gs) (H : Hp) (Q : Option Int → Gs → Prop) (R : GX) (q : Option Int → Hp → Prop), Γ.length = σ.length → Sat K T Z (Γ ++ gs) (σ ++ ts) H → t Γ Q R →
  (∀ b Γ' H', Q b Γ' → Γ'.length = σ.length → Sat K T Z (Γ' ++ gs) (σ ++ ts) H' → q b H') → XOk K T W Z ts gs σ.length R → te σ H q
def dNoPart : DO := fun Γ Q _ => Q none Γ
def dPart (da : DT) : DO := fun Γ Q R => da Γ (fun g Γ1 => wd g fun d => match d with
  | .int i => Q (some i) Γ1
  | _ => False) R
theorem runO_none : RunO K T W tNoPart dNoPart := by
  intro Z σ ts gs Γ H Q R q hl hS h hq hx
  exact hq none Γ H h hl hS
theorem runO_some {ta : TE} {da : DT} (ha : RunE K T W ta da) : RunO K T W (tPart ta) (dPart da) := by
  intro Z σ ts gs Γ H Q R q hl hS h hq hx
  refine ha Z σ ts gs Γ H _ R _ hl hS h (fun g1 Γ1 v1 H1 h1 l1 S1 => ?_) hx
  obtain ⟨O, d, S2, a1, h2⟩ := S1.arg1 (by
    obtain ⟨O, S⟩ := S1
    have := S.len
    simp at this ⊢
    omega) h1
  cases a1 with
  | int b => exact ⟨b, rfl, hq _ Γ1 H1 h2 l1 ⟨O, S2⟩⟩
  | _ => exact h2.elim
def cutD {α : Type} (xs : List α) (lo hi : Option Int) : List α := (xs.drop (HT.sIx xs.length 0 lo)).take (HT.sIx xs.length xs.length hi - HT.sIx xs.length 0 lo)
def fSl : PyData → Option Int → Option Int → (G → Prop) → Prop
  | .list l, lo, hi, Q => Q (.own false (cutD l lo hi))
  | .tuple l, lo, hi, Q => Q (.val (.tuple (cutD l lo hi)))
  | .str z, lo, hi, Q => z.length ≤ sizeLine ∧ Q (.val (.str (cutS z lo hi)))
  | _, _, _, _ => False
def rSlX (K : PySem.W.Frag) : V → Option Int → Option Int → Hp → VK → Prop := fun x lo hi H Q => rSlL K x lo hi H Q ∨ rSlA K x lo hi H Q ∨ rSlS x lo hi H Q
theorem sl_any {X : Cx} : SlR X (rSlX X.K) := sl_list.or (sl_tupA.or sl_str)
theorem Ats.cut {lo hi : Option Int} (h : Ats K O H xs ds) : Ats K O H (cutV xs lo hi) (cutD ds lo hi) := by
  unfold cutV cutD
  rw [h.len]
  exact (h.drop _).take _
def dSl (da : DT) (dl dh : DO) : DT := fun Γ Q R => da Γ (fun g Γ1 => dl Γ1 (fun lo Γ2 => dh Γ2 (fun hi Γ3 => wd g fun d => fSl d lo hi fun g => Q g Γ3) R) R) R
theorem runE_sl {ta : TE} {da : DT} {tl th : TO} {dl dh : DO} (ha : RunE K T W ta da) (hl' : RunO K T W tl dl) (hh : RunO K T W th dh) : RunE K T W (tSl (rSlX K) ta tl th) (dSl da dl dh) := by
  intro Z σ ts gs Γ H Q R q hl hS h hq hx
  refine ha Z σ ts gs Γ H _ R _ hl hS h (fun g1 Γ1 v1 H1 h1 l1 S1 => ?_) hx
  refine hl' Z σ (ts ++ [some v1]) (gs ++ [g1]) Γ1 H1 _ R _ l1 (by simpa [List.append_assoc] using S1) h1 (fun lo Γ2 H2 h2 l2 S2 => ?_) hx.weak
  refine hh Z σ (ts ++ [some v1]) (gs ++ [g1]) Γ2 H2 _ R _ l2 S2 h2 (fun hi Γ3 H3 h3 l3 S3 => ?_) hx.weak
  have S3' : Sat K T Z (Γ3 ++ gs ++ [g1]) (σ ++ ts ++ [some v1]) H3 := by simpa [List.append_assoc] using S3
  obtain ⟨O, d, S, a1, h4⟩ := S3'.arg1 (by
    obtain ⟨O, S⟩ := S3'
    have := S.len
    simp at this ⊢
    omega) h3
  cases d with
  | list l =>
    obtain ⟨a, xs, rfl, ha, hs⟩ := a1.ref_lst
    exact .inl ⟨a, xs, rfl, SqL.of ha, fun p hp => hq _ Γ3 _ _ h4 l3 ⟨_, S.ownL hp hs.cut⟩⟩
  | tuple l =>
    have a1' := a1
    obtain ⟨a, xs, rfl, ha, hs⟩ := a1.ref_tup
    refine .inr (.inl ⟨a, xs, rfl, ha, fun z => ?_, fun _ p hp => hq _ Γ3 _ _ h4 l3 ⟨O, S.tup hp hs.cut⟩⟩)
    refine hq _ Γ3 _ _ h4 l3 ⟨O, S.val ?_⟩
    have e : cutD l lo hi = l := by
      unfold cutD
      rw [← hs.len, z.1, z.2, List.drop_zero, Nat.sub_zero, hs.len, List.take_length]
    rw [e]; exact a1'
  | str z =>
    cases a1
    exact .inr (.inr ⟨z, rfl, h4.1, hq _ Γ3 _ _ h4.2 l3 ⟨O, S.val (.str _)⟩⟩)
  | _ => exact h4.elim
/-- l[::-1] -/
def dRevL (da : DT) : DT := fun Γ Q R => da Γ (fun g Γ1 => wd g fun d => match d with
  | .list l => Q (.own false l.reverse) Γ1
  | _ => False) R
theorem runE_rev {ta : TE} {da : DT} (ha : RunE K T W ta da) : RunE K T W (tRevL K ta) (dRevL da) := by
  intro Z σ ts gs Γ H Q R q hl hS h hq hx
  refine ha Z σ ts gs Γ H _ R _ hl hS h (fun g1 Γ1 v1 H1 h1 l1 S1 => ?_) hx
  obtain ⟨O, d, S, a1, h2⟩ := S1.arg1 (by
    obtain ⟨O, S⟩ := S1
    have := S.len
    simp at this ⊢
    omega) h1
  cases d with
  | list l =>
    obtain ⟨a, xs, rfl, ha, hs⟩ := a1.ref_lst
    exact ⟨a, xs, rfl, SqL.of ha, fun p hp => hq _ Γ1 _ _ h2 l1 ⟨_, S.ownL hp hs.rev⟩⟩
  | _ => exact h2.elim
/-! ### built-ins -/
def fLen : List PyData → (G → Prop) → Prop
  | [.list l], Q => Q (.val (.int l.length))
  | [.tuple l], Q => Q (.val (.int l.length))
  | [.str z], Q => z.length ≤ sizeLine ∧ Q (.val (.int z.length))
  | _, _ => False
theorem Ats.one (h : Ats K O H xs [d]) : ∃ x, xs = [x] ∧ At K O H x d := by
  cases h with
  | cons a b => cases b; exact ⟨_, rfl, a⟩
theorem ok_len : ArgOk K T (fun xs H Q => ∃ x n, xs = [x] ∧ LenV K x H n ∧ Q (.int n) H) fLen := by
  intro Z O Γ ws H xs ds Q q S hs h hq
  unfold fLen at h
  split at h
  · obtain ⟨x, rfl, t⟩ := hs.one
    obtain ⟨a, ys, rfl, ha, hy⟩ := t.ref_lst
    exact ⟨_, _, rfl, .inl ⟨ys, SqL.of ha, rfl⟩, hq _ _ _ h ⟨O, S.val (by rw [hy.len]; exact .int _)⟩⟩
  · obtain ⟨x, rfl, t⟩ := hs.one
    obtain ⟨a, ys, rfl, ha, hy⟩ := t.ref_tup
    exact ⟨_, _, rfl, .inr ⟨ys, ha, rfl⟩, hq _ _ _ h ⟨O, S.val (by rw [hy.len]; exact .int _)⟩⟩
  · obtain ⟨x, rfl, t⟩ := hs.one
    cases t
    exact ⟨_, _, rfl, ⟨h.1, rfl⟩, hq _ _ _ h.2 ⟨O, S.val (.int _)⟩⟩
  · exact h.elim
def fInt : List PyData → (G → Prop) → Prop
  | [.int i], Q => Q (.val (.int i))
  | [.bool b], Q => Q (.val (.int (if b then 1 else 0)))
  | _, _ => False
theorem ok_int : ArgOk K T (fun xs H Q => (∃ i, xs = [.int i] ∧ Q (.int i) H) ∨ ∃ k, xs = [.bl k] ∧ Q (.int (if k then 1 else 0)) H) fInt := by
  intro Z O Γ ws H xs ds Q q S hs h hq
  unfold fInt at h
  split at h
  · obtain ⟨x, rfl, t⟩ := hs.one
    cases t
    exact .inl ⟨_, rfl, hq _ _ _ h ⟨O, S.val (.int _)⟩⟩
  · obtain ⟨x, rfl, t⟩ := hs.one
    cases t
    exact .inr ⟨_, rfl, hq _ _ _ h ⟨O, S.val (.int _)⟩⟩
  · exact h.elim
def fAbs : List PyData → (G → Prop) → Prop
  | [.int i], Q => Q (.val (.int (if i < 0 then -i else i)))
  | _, _ => False
theorem ok_abs : ArgOk K T (fun xs H Q => ∃ i, xs = [.int i] ∧ Q (.int (if i < 0 then -i else i)) H) fAbs := by
  intro Z O Γ ws H xs ds Q q S hs h hq
  unfold fAbs at h
  split at h
  · obtain ⟨x, rfl, t⟩ := hs.one
    cases t
    exact ⟨_, rfl, hq _ _ _ h ⟨O, S.val (.int _)⟩⟩
  · exact h.elim
def fTuple : List PyData → (G → Prop) → Prop
  | [.list l], Q => Q (.val (.tuple l))
  | [.tuple l], Q => Q (.val (.tuple l))
  | _, _ => False
theorem ok_tuple : ArgOk K T (fun xs H Q => ∃ p ys, xs = [.ref p] ∧ ((SqL K H p ys ∧ ∀ l, H l = none → Q (.ref l) (upd H l (.tup ys))) ∨ (SqT K H p ys ∧ Q (.ref p) H))) fTuple := by
  intro Z O Γ ws H xs ds Q q S hs h hq
  unfold fTuple at h
  split at h
  · obtain ⟨x, rfl, t⟩ := hs.one
    obtain ⟨a, ys, rfl, ha, hy⟩ := t.ref_lst
    exact ⟨_, _, rfl, .inl ⟨SqL.of ha, fun p hp => hq _ _ _ h ⟨O, S.tup hp hy⟩⟩⟩
  · obtain ⟨x, rfl, t⟩ := hs.one
    have t' := t
    obtain ⟨a, ys, rfl, ha, hy⟩ := t.ref_tup
    exact ⟨_, _, rfl, .inr ⟨ha, hq _ _ _ h ⟨O, S.val t'⟩⟩⟩
  · exact h.elim
def fList : List PyData → (G → Prop) → Prop
  | [.list l], Q => Q (.own false l)
  | [.tuple l], Q => Q (.own false l)
  | _, _ => False
theorem ok_list : ArgOk K T (fun xs H Q => ∃ p ys, xs = [.ref p] ∧ (SqL K H p ys ∨ SqT K H p ys) ∧ ∀ l, H l = none → Q (.ref l) (upd H l (.lst ys))) fList := by
  intro Z O Γ ws H xs ds Q q S hs h hq
  unfold fList at h
  split at h
  · obtain ⟨x, rfl, t⟩ := hs.one
    obtain ⟨a, ys, rfl, ha, hy⟩ := t.ref_lst
    exact ⟨_, _, rfl, .inl (SqL.of ha), fun p hp => hq _ _ _ h ⟨_, S.ownL hp hy⟩⟩
  · obtain ⟨x, rfl, t⟩ := hs.one
    obtain ⟨a, ys, rfl, ha, hy⟩ := t.ref_tup
    exact ⟨_, _, rfl, .inr ha, fun p hp => hq _ _ _ h ⟨_, S.ownL hp hy⟩⟩
  · exact h.elim
def fSum : List PyData → (G → Prop) → Prop
  | [.list l], Q => ∃ ns : List Int, l = ns.map PyData.int ∧ Q (.val (.int ns.sum))
  | _, _ => False
theorem ok_sum : ArgOk K T (rSum K) fSum := by
  intro Z O Γ ws H xs ds Q q S hs h hq
  unfold fSum at h
  split at h
  · obtain ⟨x, rfl, t⟩ := hs.one
    obtain ⟨a, ys, rfl, ha, hy⟩ := t.ref_lst
    obtain ⟨ns, rfl, h⟩ := h
    have e := hy.ints
    subst e
    exact ⟨a, ns, rfl, SqL.of ha, hq _ _ _ h ⟨O, S.val (.int _)⟩⟩
  · exact h.elim
def fMax : List PyData → (G → Prop) → Prop
  | [.list l], Q => ∃ ns : List Int, l = ns.map PyData.int ∧ 0 < ns.length ∧ ∀ m, m ∈ ns → (∀ y, y ∈ ns → y ≤ m) → Q (.val (.int m))
  | _, _ => False
theorem ok_max : ArgOk K T (rMax K) fMax := by
  intro Z O Γ ws H xs ds Q q S hs h hq
  unfold fMax at h
  split at h
  · obtain ⟨x, rfl, t⟩ := hs.one
    obtain ⟨a, ys, rfl, ha, hy⟩ := t.ref_lst
    obtain ⟨ns, rfl, h0, h⟩ := h
    have e := hy.ints
    subst e
    exact ⟨a, ns, rfl, SqL.of ha, h0, fun m hm hy => hq _ _ _ (h m hm hy) ⟨O, S.val (.int _)⟩⟩
  · exact h.elim
def fAll : List PyData → (G → Prop) → Prop
  | [.list l], Q => ∃ bs : List Bool, l = bs.map PyData.bool ∧ Q (.val (.bool (bs.all id)))
  | _, _ => False
theorem ok_all : ArgOk K T (rAll K) fAll := by
  intro Z O Γ ws H xs ds Q q S hs h hq
  unfold fAll at h
  split at h
  · obtain ⟨x, rfl, t⟩ := hs.one
    obtain ⟨a, ys, rfl, ha, hy⟩ := t.ref_lst
    obtain ⟨ns, rfl, h⟩ := h
    have e := hy.bls
    subst e
    exact ⟨a, ns, rfl, SqL.of ha, hq _ _ _ h ⟨O, S.val (.bl _)⟩⟩
  · exact h.elim
def fAny : List PyData → (G → Prop) → Prop
  | [.list l], Q => ∃ bs : List Bool, l = bs.map PyData.bool ∧ Q (.val (.bool (bs.any id)))
  | _, _ => False
theorem ok_any : ArgOk K T (rAny K) fAny := by
  intro Z O Γ ws H xs ds Q q S hs h hq
  unfold fAny at h
  split at h
  · obtain ⟨x, rfl, t⟩ := hs.one
    obtain ⟨a, ys, rfl, ha, hy⟩ := t.ref_lst
    obtain ⟨ns, rfl, h⟩ := h
    have e := hy.bls
    subst e
    exact ⟨a, ns, rfl, SqL.of ha, hq _ _ _ h ⟨O, S.val (.bl _)⟩⟩
  · exact h.elim
/-- repr of an int -/
def fReprI : List PyData → (G → Prop) → Prop
  | [.int i], Q => i.natAbs.log2 < 1920 ∧ Q (.val (.str (toString i)))
  | _, _ => False
theorem ok_reprI : ArgOk K T (fun xs H Q => ∃ i, xs = [.int i] ∧ i.natAbs.log2 < 1920 ∧ Q (.str (toString i)) H) fReprI := by
  intro Z O Γ ws H xs ds Q q S hs h hq
  unfold fReprI at h
  split at h
  · obtain ⟨x, rfl, t⟩ := hs.one
    cases t
    exact ⟨_, rfl, h.1, hq _ _ _ h.2 ⟨O, S.val (.str _)⟩⟩
  · exact h.elim
/-- isinstance(x, T) -/
def isT (n : String) (d : PyData) : Bool := pyT d == n || (n == "int" && pyT d == "bool")
def dIsi (n : String) (da : DT) : DT := fun Γ Q R => da Γ (fun g Γ1 => wd g fun d => Q (.val (.bool (isT n d))) Γ1) R
def kitAll (n : String) : Bool := ["NoneType", "bool", "int", "str", "list", "tuple", "dict"].all fun a => kitB a n == some (a == n || (n == "int" && a == "bool"))
theorem kit_all {n : String} (h : kitAll n = true) (d : PyData) : kitB (pyT d) n = some (isT n d) := by
  unfold kitAll at h
  simp only [List.all_cons, List.all_nil, Bool.and_true, Bool.and_eq_true, beq_iff_eq] at h
  obtain ⟨h1, h2, h3, h4, h5, h6, h7⟩ := h
  cases d
  · exact h1
  · exact h2
  · exact h3
  · exact h4
  · exact h5
  · exact h6
  · exact h7
theorem runE_isi {n : String} {ta : TE} {da : DT} (hk : kitAll n = true) (ha : RunE K T W ta da) : RunE K T W (tCB (rIsi K) (tCons ta (tCons (tC (.ty n)) tNil))) (dIsi n da) := by
  intro Z σ ts gs Γ H Q R q hl hS h hq hx
  refine ha Z σ ts gs Γ H _ R _ hl hS h (fun g1 Γ1 v1 H1 h1 l1 S1 => ?_) hx
  obtain ⟨O, d, S, a1, h2⟩ := S1.arg1 (by
    obtain ⟨O, S⟩ := S1
    have := S.len
    simp at this ⊢
    omega) h1
  exact ⟨v1, .ty n, _, _, _, rfl, .ty n, a1.ty, kit_ty (kit_all hk d), hq _ Γ1 _ _ h2 l1 ⟨O, S.val (.bl _)⟩⟩
theorem kit_str : kitAll "str" = true := by decide +kernel
theorem kit_int : kitAll "int" = true := by decide +kernel
theorem kit_bool : kitAll "bool" = true := by decide +kernel
theorem kit_tuple : kitAll "tuple" = true := by decide +kernel
theorem kit_list : kitAll "list" = true := by decide +kernel
/-- sep.join(texts) -/
def fJoin : List PyData → (G → Prop) → Prop
  | [.str a, .list l], Q => ∃ ys : List Str, l = ys.map PyData.str ∧ (ys.map (·.length)).sum + ys.length * a.length ≤ 16777216 ∧ Q (.val (.str (Txt.join a ys)))
  | _, _ => False
end
end DL

/-! enumerate of a tuple; a list or a tuple walked. -/
namespace PySem
open Sem (wp)
open AutoSeq1 (wpAny_loadPart')
set_option maxHeartbeats 1000000 in
theorem en_meets1 {v : Value} {o : Obj} {H : Heap → Prop} (B : Begins v o H) : Meets (Builtin.«enumerate.__new__» ⟨[.type "enumerate", v], []⟩) (fun _ R s => H s.heap ∧
    R (.ok (.ret (.ref (s.heap.push o).objs.size))) { s with heap := (s.heap.push o).push { cls := .type "enumerate", data := .fields #[.none, .bool false, .ref s.heap.objs.size, rawInt 0, .none, .none] } }) :=
  .of_wp fun prog w A R st hh => by
    obtain ⟨hp, gens, dr, tk, os⟩ := st
    obtain ⟨hyp, fin⟩ := hh
    have hsub := sub_enumerate
    have go : ∀ {A' : Around} {E : Value → Shared → Prop} {Q : Value → Shared → Prop}, Q (.ref hp.objs.size) ⟨hp.push o, gens, dr, tk, os⟩ → wpAny (model prog w) A' (pyIter v) Q E ⟨hp, gens, dr, tk, os⟩ :=
      fun q => B.iter prog w _ _ ⟨hp, gens, dr, tk, os⟩ _ hyp q
    wp_walk using go
    refine wpAny_stack_any fun stk => wpAny_pure ?_
    split
    · rename_i cc _ _ _ _ _
      cases (cc == Value.type "enumerate") <;> (wp_walk using go; exact ⟨_, rfl, fin⟩)
    · wp_walk using go
      exact ⟨_, rfl, fin⟩
theorem en_begins1 {prog : Program} {w : World} {A : Around} {E : Value → Shared → Prop} {s : Shared} {v : Value} {o : Obj} {H : Heap → Prop} {Q : Value → Shared → Prop} (B : Begins v o H) (hyp : H s.heap)
    (fin : ∀ h', IsEnum h' (s.heap.objs.size + 1) s.heap.objs.size 0 .none → h'.get? s.heap.objs.size = some o → (∀ b ob, s.heap.get? b = some ob → h'.get? b = some ob) → Q (.ref (s.heap.objs.size + 1)) { s with heap := h' }) :
    wpAny (model prog w) A (call (.type "enumerate") [v]) Q E s := by
  refine callType_new F.called_enumerate (by decide) (F.typeCall_enumerate_1 _) (F.newCall_enumerate_1 _) (fun ob => F.args_object_init_2 ob _) F.entry_enumerate_new (en_meets1 B) ⟨hyp, ?_⟩
  have size1 : (s.heap.push o).objs.size = s.heap.objs.size + 1 := Heap.size_push ..
  have made : IsEnum ((s.heap.push o).push { cls := .type "enumerate", data := .fields #[.none, .bool false, .ref s.heap.objs.size, rawInt 0, .none, .none] }) (s.heap.objs.size + 1) s.heap.objs.size 0 .none := by
    rw [← size1]
    exact Heap.get?_push_size _ rfl
  show _ ∧ _
  rw [size1]
  exact ⟨⟨_, made, rfl⟩, fin _ made (Heap.get?_push_of_some _ (Heap.get?_push_size _ B.free)) fun b ob e => Heap.get?_push_of_some _ (Heap.get?_push_of_some _ e)⟩
end PySem
namespace DL
open PySem PySem.Spec PyProof.Rows L2 LamX
/-- the tuple at a, each item in a new pair with its place -/
def IteT (K : PySem.W.Frag) (a : Addr) : It where
  go := fun i H => ∃ (xs : List V) (x : V), SqT K H a xs ∧ xs[i]? = some x
  yld := fun i H v H' => ∃ T x, v = .ref T ∧ H T = none ∧ H' = upd H T (.tup [.int (i : Nat), x]) ∧ ∀ xs, SqT K H a xs → xs[i]? = some x
  stop := fun i H => ∃ xs : List V, SqT K H a xs ∧ xs.length ≤ i
theorem turn_enumT {P : Program} {w : World} {K : PySem.W.Frag} {elts : List Expr} {kk : Nat} {tpos : Pos} (a e it : Addr) :
    Turn P w K (.Tuple elts kk tpos) (IteT K a) [e, it] e (fun i h => (∃ old, IsEnum h e it (i : Int) old) ∧ h.IsTupleIter it a i ∧ e ≠ it) := by
  refine ⟨by simp, ?_, ?_, ?_, ?_, ?_⟩
  · rintro i h ⟨⟨old, he⟩, ⟨o, ho, hc, hd⟩, _⟩ b hb
    have two : b = e ∨ b = it := by simpa using hb
    rcases two with rfl | rfl
    · exact ⟨_, he, fun v q => nomatch q⟩
    · exact ⟨o, ho, fun v q => by rw [hd] at q; cases q⟩
  · rintro i h h' ⟨⟨old, he⟩, hit, hne⟩ k
    exact ⟨⟨old, k e (by simp) _ he⟩, hit.at fun o q => k it (by simp) o q, hne⟩
  · intro X hP hw hK hc i pins s σ H E I hf st hg
    subst hP hw hK
    obtain ⟨⟨old, he⟩, hit, hne⟩ := st
    obtain ⟨xs, x, hq, hx⟩ := hg
    obtain ⟨its, rv, p, hz⟩ := I.tuple hq
    obtain ⟨u, hu, ru⟩ := rv.get hx
    have hel : e < s.heap.objs.size := Heap.lt_size he
    have hil : it < s.heap.objs.size := by obtain ⟨_, q, _⟩ := hit; exact Heap.lt_size q
    have tupA : s.heap.IsTuple a its.toArray := p
    have ai : a ≠ it := fun z => by
      obtain ⟨o, ho, hc', _⟩ := p
      obtain ⟨o2, ho2, hc2, _⟩ := hit
      rw [z, ho2] at ho; cases ho
      rw [hc2] at hc'; exact absurd hc' (by decide)
    have ae : e ≠ a := fun z => by
      obtain ⟨o, ho, hc', _⟩ := p
      rw [← z] at ho
      have he' : s.heap.get? e = some _ := he
      rw [he'] at ho; cases ho; exact absurd hc' (show ¬ (Value.type "enumerate" = Value.type "tuple") by decide)
    have hlt : i < its.toArray.size := by
      have := (List.getElem?_eq_some_iff.mp hu).1
      simpa using this
    refine wpAny_pyNext_enum_itemC (Draws.tuple (A := X.A.in1) (show X.A.in1.handled = none from I.ok.hd hc) it a ai its.toArray) he ⟨hit, tupA⟩ hlt hne (by simp; exact ⟨hne, ae⟩) fun y h' tk hy ho hit' hT hsz hk => ?_
    have hyu : y = u := by
      have : its.toArray[i]? = some y := hy
      simp at this
      rw [hu] at this
      exact (Option.some.inj this).symm
    subst hyu
    refine ⟨_, rfl, wpAny_letOwnedTupleGo_enum (s := { s with heap := h', toks := tk + 1 }) ho fun h'' he' sb => ?_⟩
    have hT2 : h''.get? s.heap.objs.size = some { cls := .type "tuple", data := .seq #[.int (i : Nat) tk, y] } := (sb.2 _ (Nat.ne_of_gt hel)).trans hT
    have fresh : ObjOk X.prog X.w (upd H s.heap.objs.size (.tup [.int (i : Nat), x])) h'' s.heap.objs.size (.tup [.int (i : Nat), x]) :=
      ⟨by show 2 ≤ sizeLine; decide, [.int (i : Nat) tk, y], .cons ⟨_, rfl⟩ (.cons ru .nil), ⟨_, hT2, rfl, _, rfl⟩⟩
    have J := I.turnedNew (t' := tk + 1) (ch := [e, it]) (fun b ob hb q => (sb.2 b (fun z => hb (by simp [z]))).trans (hk b ob (fun z => hb (by simp [z])) (fun z => hb (by simp [z])) q)) hf (Nat.le_refl _) fresh
    refine ⟨.ref s.heap.objs.size, _, J, rfl, ⟨_, x, rfl, I.hok.fresh (Nat.le_refl _), rfl, fun ys hy => by rw [I.tuple_inj hy hq]; exact hx⟩, ⟨⟨y, ?_⟩, hit'.1.at fun o q => (sb.2 it (Ne.symm hne)).trans q, hne⟩, fun b hb => ?_⟩
    · have e1 : ((i + 1 : Nat) : Int) = (i : Int) + 1 := by omega
      rw [e1]
      exact he'
    · have hb' : b < s.heap.objs.size := by
        have two : b = e ∨ b = it := by simpa using hb
        rcases two with z | z <;> rw [z] <;> assumption
      rw [upd_ne (Nat.ne_of_lt hb')]
      exact (hf b hb).1
  · intro X hP hw hK hc i pins s σ H E I hf st hg
    subst hP hw hK
    obtain ⟨⟨old, he⟩, hit, hne⟩ := st
    obtain ⟨xs, hq, hx⟩ := hg
    obtain ⟨its, rv, p, hz⟩ := I.tuple hq
    obtain ⟨f0, f1, f2, f3, f4, f5⟩ := hf it (by simp)
    have hl := rv.length
    have tupA : s.heap.IsTuple a its.toArray := p
    have ai : a ≠ it := fun z => by
      obtain ⟨o, ho, hc', _⟩ := p
      obtain ⟨o2, ho2, hc2, _⟩ := hit
      rw [z, ho2] at ho; cases ho
      rw [hc2] at hc'; exact absurd hc' (by decide)
    have D := Draws.tuple (prog := X.prog) (w := X.w) (A := X.A.in1) (show X.A.in1.handled = none from I.ok.hd hc) it a ai its.toArray
    have D' : Draws X.prog X.w X.A.in1 it [it, a] i (fun j v => its.toArray[j]? = some v) (fun j h => (h.IsTupleIter it a j ∧ h.IsTuple a its.toArray) ∧ i ≤ j) :=
      ⟨fun j h st' => D.live j h st'.1, fun j h h' st' k => ⟨D.frame j h h' st'.1 k, st'.2⟩, fun j s' Q E' hj st' hQ => absurd st'.2 (Nat.not_le_of_lt hj),
        fun s' Q E' st' hE => wpAny_nextOf_tuple_end (show X.A.in1.handled = none from I.ok.hd hc) st'.1.1 st'.1.2 (by simp; omega) hE⟩
    exact wpAny_pyNext_enum_endD D' he ⟨⟨hit, tupA⟩, Nat.le_refl _⟩ fun h' eb => ⟨rfl, I.turned (t' := s.toks) (fun b o hb q => eb b o hb q) f0 f1 f3 f4 f5⟩
  · rintro A i s Q E ⟨⟨_, he⟩, _⟩ h
    exact wpAny_pyIter_enum he h
end DL

/-! statements, walks, comprehensions. -/
namespace DL
open PySem PySem.Spec PyProof.Rows L2 LamX
section
variable {K : PySem.W.Frag} {T : List (Addr × Str)} {W : WX} {Z : Zc} {O : AS} {H : Hp} {Γ gs : Gs} {ws : L2.St} {g : G} {v : V} {d : PyData}
theorem mid_src {α : Type} {Γ gs : List α} {g x : α} {j : Nat} (e : (Γ ++ [g])[j]? = some x) : (Γ ++ gs ++ [g])[if j < Γ.length then j else j + gs.length]? = some x := by
  rcases get_app e with ⟨h1, h2⟩ | ⟨h1, h2⟩
  · rw [if_pos h1, List.getElem?_append_left (by simp; omega), List.getElem?_append_left h1]
    exact h2
  · subst h1; subst h2
    rw [if_neg (Nat.lt_irrefl _), ← List.length_append, List.getElem?_append_right (Nat.le_refl _), Nat.sub_self]
    rfl
/-- what stands between is dropped -/
theorem SatA.mid {ts : L2.St} (S : SatA K T Z O (Γ ++ gs ++ [g]) (ws ++ ts ++ [some v]) H) (hl : Γ.length = ws.length) (n : ∀ l, g ≠ .own true l) : SatA K T Z O (Γ ++ [g]) (ws ++ [some v]) H := by
  have hlen := S.len
  simp only [List.length_append, List.length_singleton] at hlen
  have hg : gs.length = ts.length := by omega
  have lt : ∀ {j : Nat} {x : G}, (Γ ++ [g])[j]? = some x → j ≤ Γ.length := fun {j x} e => by
    have := (List.getElem?_eq_some_iff.mp e).1
    simp at this; omega
  have src2 : ∀ {j : Nat} {w : Option V}, (ws ++ [some v])[j]? = some w → (ws ++ ts ++ [some v])[if j < Γ.length then j else j + gs.length]? = some w := fun {j w} e => by
    have := mid_src (gs := ts) e
    rw [hl, hg]; exact this
  refine ⟨by simp; omega, fun j x w e1 e2 => ?_, fun j j' p q l m a e1 e2 e3 e4 => ?_, S.ext, S.zo, S.new, S.mo, S.lst, S.keep, S.tabs⟩
  · have q := S.ok _ x w (mid_src e1) (src2 e2)
    by_cases hj : j < Γ.length
    · rw [if_pos hj] at q; exact q
    · rw [if_neg hj] at q
      rcases get_app e1 with ⟨h1, h2⟩ | ⟨h1, h2⟩
      · exact absurd h1 hj
      · subst h2; exact q.move n
  · have := S.sep _ _ p q l m a (mid_src (gs := gs) e1) (mid_src (gs := gs) e2) (src2 e3) (src2 e4)
    have h1 := lt e1
    have h2 := lt e2
    split at this <;> split at this <;> omega

/-! ### small statements -/
def okG : G → (G → Prop) → Prop
  | .own true _, _ => False
  | g, k => k g
theorem okG_some {k : G → Prop} (h : okG g k) : (∀ l, g ≠ .own true l) ∧ k g := by
  cases g with
  | own p l =>
    cases p with
    | true => exact h.elim
    | false => exact ⟨(fun l z => by cases z), h⟩
  | unk => exact ⟨(fun l z => by cases z), h⟩
  | raw v => exact ⟨(fun l z => by cases z), h⟩
  | frz b ys => exact ⟨(fun l z => by cases z), h⟩
  | val d => exact ⟨(fun l z => by cases z), h⟩
def dNext : DS := fun D Γ => D.nx Γ
def dSeq (t u : DS) : DS := fun D Γ => t { D with nx := u D } Γ
def dBreak : DS := fun D Γ => D.bk Γ
def dCont : DS := fun D Γ => D.ct Γ
def dDrop (da : DT) : DS := fun D Γ => da Γ (fun _ Γ1 => D.nx Γ1) D.xc
def dRet (da : DT) : DS := fun D Γ => da Γ (fun g Γ1 => okG g fun g => D.rt g Γ1) D.xc
def dRetN : DS := fun D Γ => D.rt (.val .none) Γ
def dIfS (t : DB) (a b : DS) : DS := fun D Γ => t Γ (fun c Γ1 => if c = true then a D Γ1 else b D Γ1) D.xc
def dNever : DS := fun _ _ => False
def dAsg (i : Nat) (da : DT) : DS := fun D Γ => da Γ (fun g Γ1 => okG g fun g => D.nx (Γ1.set i g)) D.xc
def dPar (i j : Nat) (dA : DA) : DS := fun D Γ => dA Γ (fun rs Γ1 => match rs with
  | [g1, g2] => okG g1 fun g1 => okG g2 fun g2 => D.nx ((Γ1.set i g1).set j g2)
  | _ => False) D.xc
def dAug (i : Nat) (f : PyData → PyData → (G → Prop) → Prop) (da : DT) : DS := fun D Γ => match Γ[i]? with
  | some (.val d0) => da Γ (fun g Γ1 => wd g fun d => f d0 d fun g' => okG g' fun g' => D.nx (Γ1.set i g')) D.xc
  | _ => False
theorem len_of {σ ts : L2.St} (S : Sat K T Z (Γ ++ gs) (σ ++ ts) H) (hl : Γ.length = σ.length) : gs.length = ts.length := by
  obtain ⟨O, S⟩ := S
  have := S.len
  simp at this
  omega
theorem runS_next : RunS K T W tNext dNext := fun Z σ ts gs Γ H D E hl S h e => e.nx Γ σ H h hl rfl S
theorem runS_break : RunS K T W tBreak dBreak := fun Z σ ts gs Γ H D E hl S h e => e.bk Γ σ H h hl rfl S
theorem runS_cont : RunS K T W tCont dCont := fun Z σ ts gs Γ H D E hl S h e => e.ct Γ σ H h hl rfl S
theorem runS_never : RunS K T W tNever dNever := fun Z σ ts gs Γ H D E hl S h e => h
theorem runS_seq {t u : TS} {dt du : DS} (h1 : RunS K T W t dt) (h2 : RunS K T W u du) : RunS K T W (tSeq t u) (dSeq dt du) := by
  intro Z σ ts gs Γ H D E hl S h e
  refine h1 Z σ ts gs Γ H { D with nx := du D } _ hl S h ⟨fun Γ' σ' H' hn l1 l2 S' => ?_, e.rt, e.bk, e.ct, e.xc⟩
  refine h2 Z σ' ts gs Γ' H' D E (l1.trans l2.symm) S' hn ?_
  rw [l2]; exact e
theorem runS_drop {ta : TE} {da : DT} (ha : RunE K T W ta da) : RunS K T W (tDrop ta) (dDrop da) := by
  intro Z σ ts gs Γ H D E hl S h e
  exact ha Z σ ts gs Γ H _ D.xc _ hl S h (fun g Γ1 v H1 h1 l1 S1 => e.nx Γ1 σ H1 h1 l1 rfl (S1.take (by have := len_of S hl; simp; omega))) e.xc
theorem runS_ret {ta : TE} {da : DT} (ha : RunE K T W ta da) : RunS K T W (tRet ta) (dRet da) := by
  intro Z σ ts gs Γ H D E hl S h e
  exact ha Z σ ts gs Γ H _ D.xc _ hl S h (fun g Γ1 v H1 h1 l1 S1 => e.rt g Γ1 v σ H1 (okG_some h1).2 (okG_some h1).1 l1 rfl S1) e.xc
theorem runS_retN : RunS K T W tRetN dRetN := by
  intro Z σ ts gs Γ H D E hl S h e
  obtain ⟨O, S⟩ := S
  exact e.rt _ Γ _ σ H h (fun l z => nomatch z) hl rfl ⟨O, S.val .non⟩
theorem runS_if {tc : TT} {bt : DB} {t u : TS} {dt du : DS} (hc : RunB K T W tc bt) (h1 : RunS K T W t dt) (h2 : RunS K T W u du) : RunS K T W (tIfS tc t u) (dIfS bt dt du) := by
  intro Z σ ts gs Γ H D E hl S h e
  refine hc Z σ ts gs Γ H _ D.xc _ hl S h (fun b Γ1 H1 k l1 S1 => ?_) e.xc
  cases b with
  | true => exact h1 Z σ ts gs Γ1 H1 D E l1 S1 k e
  | false => exact h2 Z σ ts gs Γ1 H1 D E l1 S1 k e
theorem set_ge {α : Type} {l : List α} {i : Nat} {x : α} (h : l.length ≤ i) : l.set i x = l := by
  rw [List.set_eq_of_length_le h]
theorem Sat.store {i : Nat} {σ ts : L2.St} (S : Sat K T Z (Γ ++ gs ++ [g]) (σ ++ ts ++ [some v]) H) (hl : Γ.length = σ.length) (n : ∀ l, g ≠ .own true l) : Sat K T Z (Γ.set i g ++ gs) (σ.set i (some v) ++ ts) H := by
  obtain ⟨O, S⟩ := S
  by_cases hi : i < Γ.length
  · exact ⟨O, S.store hl hi n⟩
  · rw [set_ge (Nat.le_of_not_lt hi), set_ge (by omega)]
    refine ⟨O, S.take ?_⟩
    have := S.len
    simp at this ⊢
    omega
theorem runS_asg {i : Nat} {ta : TE} {da : DT} (ha : RunE K T W ta da) : RunS K T W (tAsg ta (gName i)) (dAsg i da) := by
  intro Z σ ts gs Γ H D E hl S h e
  refine ha Z σ ts gs Γ H _ D.xc _ hl S h (fun g Γ1 v H1 h1 l1 S1 => ?_) e.xc
  obtain ⟨n, h1⟩ := okG_some h1
  exact e.nx _ _ H1 h1 (by simpa using l1) (by simp) (S1.store l1 n)
theorem runS_par {i j : Nat} {tA : TA} {dA : DA} (hij : i ≠ j) (hA : RunA K T W tA dA) : RunS K T W (tPar i j tA) (dPar i j dA) := by
  intro Z σ ts gs Γ H D E hl S h e
  refine hA Z σ ts gs Γ H _ D.xc _ hl S h (fun rs Γ1 vs H1 h1 l1 S1 => ?_) e.xc
  have hll := len_of S hl
  have hlen : rs.length = vs.length := by
    obtain ⟨O, S1⟩ := S1
    have := S1.len
    simp at this
    omega
  split at h1
  · rename_i g1 g2
    obtain ⟨n1, h1⟩ := okG_some h1
    obtain ⟨n2, h1⟩ := okG_some h1
    match vs, hlen with
    | [v, w], _ =>
      refine ⟨v, w, rfl, ?_⟩
      have S2 : Sat K T Z (Γ1 ++ (gs ++ [g1]) ++ [g2]) (σ ++ (ts ++ [some v]) ++ [some w]) H1 := by simpa [List.append_assoc] using S1
      have S3 := S2.store (i := j) l1 n2
      have S4 : Sat K T Z (Γ1.set j g2 ++ gs ++ [g1]) (σ.set j (some w) ++ ts ++ [some v]) H1 := by simpa [List.append_assoc] using S3
      have S5 := S4.store (i := i) (by simpa using l1) n1
      rw [List.set_comm _ _ (Ne.symm hij), List.set_comm _ _ (Ne.symm hij)] at S5
      exact e.nx _ _ H1 h1 (by simpa using l1) (by simp) S5
  · exact h1.elim
theorem runS_aug {i : Nat} {r : R2} {f : PyData → PyData → (G → Prop) → Prop} {ta : TE} {da : DT} (hr : BinOk K T r f) (ha : RunE K T W ta da) : RunS K T W (tAug i ta r) (dAug i f da) := by
  intro Z σ ts gs Γ H D E hl S h e
  unfold dAug at h
  split at h
  · rename_i d0 e0
    have hll := len_of S hl
    obtain ⟨O, S⟩ := S
    have hi : i < Γ.length := (List.getElem?_eq_some_iff.mp e0).1
    obtain ⟨w, e2, x, rfl, t⟩ := S.at_ (i := i) (g := .val d0) (by rw [List.getElem?_append_left hi]; exact e0)
    rw [List.getElem?_append_left (by omega)] at e2
    refine ⟨x, e2, ?_⟩
    have S1 : Sat K T Z (Γ ++ (gs ++ [.val d0])) (σ ++ (ts ++ [some x])) H := ⟨O, by simpa [List.append_assoc] using S.val t⟩
    refine ha Z σ (ts ++ [some x]) (gs ++ [.val d0]) Γ H _ D.xc _ hl S1 h (fun g Γ1 v H1 h1 l1 S2 => ?_) e.xc.weak
    have S3 : Sat K T Z (Γ1 ++ gs ++ [.val d0, g]) (σ ++ ts ++ [x, v].map some) H1 := by simpa [List.append_assoc] using S2
    obtain ⟨O2, ds, S4, hs, d1, e3, h2⟩ := S3.args (k := fun ds => ∃ d1, ds = [d0, d1] ∧ f d0 d1 fun g' => okG g' fun g' => D.nx (Γ1.set i g')) (by simp; omega) (by
      obtain ⟨d1, q1, k1⟩ := wd_some h1
      rcases q1 with rfl | ⟨_, rfl, rfl⟩ <;> exact ⟨_, rfl, k1⟩)
    subst e3
    cases hs with
    | cons a1 hs =>
      cases hs with
      | cons a2 hs =>
        refine hr Z O2 (Γ1 ++ gs) (σ ++ ts) H1 x v d0 d1 _ _ S4 a1 a2 h2 fun g' z H2 hg S5 => ?_
        obtain ⟨n, hg⟩ := okG_some hg
        exact e.nx _ _ H2 hg (by simpa using l1) (by simp) (S5.store l1 n)
  · exact h.elim
/-! ### targets -/
def RunGN (K : PySem.W.Frag) (T : List (Addr × Str)) (tg : TG) (t : PyData → Gs → (Gs → Prop) → Prop) : Prop := ∀ (Z : Zc) (σ ts : L2.St) (gs Γ : Gs) (H : Hp) (O : AS) (v : V) (d : PyData) (Q : Gs → Prop) (q : L2.St → Hp → Prop), Γ.length = σ.length → SatA K T Z O (Γ ++ gs) (σ ++ ts) H → At K O H v d → t d Γ Q →
  (∀ Γ' σ', Q Γ' → Γ'.length = σ.length → σ'.length = σ.length → SatA K T Z O (Γ' ++ gs) (σ' ++ ts) H → q σ' H) → tg v σ H q
def RunGNs (K : PySem.W.Frag) (T : List (Addr × Str)) (tg : TGs) (t : List PyData → Gs → (Gs → Prop) → Prop) : Prop := ∀ (Z : Zc) (σ ts : L2.St) (gs Γ : Gs) (H : Hp) (O : AS) (vs : List V) (ds : List PyData) (Q : Gs → Prop) (q : L2.St → Hp → Prop), Γ.length = σ.length → SatA K T Z O (Γ ++ gs) (σ ++ ts) H → Ats K O H vs ds → t ds Γ Q →
  (∀ Γ' σ', Q Γ' → Γ'.length = σ.length → σ'.length = σ.length → SatA K T Z O (Γ' ++ gs) (σ' ++ ts) H → q σ' H) → tg vs σ H q
def dgName (i : Nat) : PyData → Gs → (Gs → Prop) → Prop := fun d Γ Q => Q (Γ.set i (.val d))
def dgNil : List PyData → Gs → (Gs → Prop) → Prop := fun ds Γ Q => match ds with
  | [] => Q Γ
  | _ => False
def dgCons (t : PyData → Gs → (Gs → Prop) → Prop) (u : List PyData → Gs → (Gs → Prop) → Prop) : List PyData → Gs → (Gs → Prop) → Prop := fun ds Γ Q => match ds with
  | d :: ds => t d Γ fun Γ1 => u ds Γ1 Q
  | _ => False
def dgTup (n : Nat) (t : List PyData → Gs → (Gs → Prop) → Prop) : PyData → Gs → (Gs → Prop) → Prop := fun d Γ Q => match d with
  | .tuple ds => ds.length = n ∧ t ds Γ Q
  | _ => False
theorem runG_name {i : Nat} : RunGN K T (gName i) (dgName i) := by
  intro Z σ ts gs Γ H O v d Q q hl S a h hq
  have S1 := S.val a
  by_cases hi : i < Γ.length
  · exact hq _ _ h (by simpa using hl) (by simp) (S1.store hl hi fun l z => nomatch z)
  · have e1 : Γ.set i (.val d) = Γ := set_ge (Nat.le_of_not_lt hi)
    have e2 : σ.set i (some v) = σ := set_ge (by omega)
    unfold dgName at h
    rw [e1] at h
    show q (σ.set i (some v)) H
    rw [e2]
    exact hq _ _ h hl rfl S
theorem runG_nil : RunGNs K T gNil dgNil := by
  intro Z σ ts gs Γ H O vs ds Q q hl S a h hq
  cases a with
  | nil => exact ⟨rfl, hq _ _ h hl rfl S⟩
  | cons _ _ => exact h.elim
theorem runG_cons {tg : TG} {tgs : TGs} {t : PyData → Gs → (Gs → Prop) → Prop} {u : List PyData → Gs → (Gs → Prop) → Prop} (h1 : RunGN K T tg t) (h2 : RunGNs K T tgs u) : RunGNs K T (gCons tg tgs) (dgCons t u) := by
  intro Z σ ts gs Γ H O vs ds Q q hl S a h hq
  cases a with
  | nil => exact h.elim
  | cons a b =>
    refine ⟨_, _, rfl, h1 Z σ ts gs Γ H O _ _ _ _ hl S a h fun Γ' σ' k l1 l2 S' => ?_⟩
    exact h2 Z σ' ts gs Γ' H O _ _ Q q (l1.trans l2.symm) S' b k fun Γ'' σ'' k2 l3 l4 S'' => hq Γ'' σ'' k2 (l3.trans l2) (l4.trans l2) S''
theorem runG_tup {n : Nat} {tgs : TGs} {u : List PyData → Gs → (Gs → Prop) → Prop} (h : RunGNs K T tgs u) : RunGN K T (gTup K n tgs) (dgTup n u) := by
  intro Z σ ts gs Γ H O v d Q q hl S a k hq
  cases d with
  | tuple ds =>
    obtain ⟨b, xs, rfl, hb, hs⟩ := a.ref_tup
    exact ⟨b, xs, rfl, hb, hs.len.trans k.1, h Z σ ts gs Γ H O xs ds Q q hl S hs k.2 hq⟩
  | _ => exact k.elim
/-- a target that is no plain name -/
def dAsgT (t : PyData → Gs → (Gs → Prop) → Prop) (da : DT) : DS := fun D Γ => da Γ (fun g Γ1 => wd g fun d => t d Γ1 D.nx) D.xc
theorem runS_asgT {tg : TG} {t : PyData → Gs → (Gs → Prop) → Prop} {ta : TE} {da : DT} (hg : RunGN K T tg t) (ha : RunE K T W ta da) : RunS K T W (tAsg ta tg) (dAsgT t da) := by
  intro Z σ ts gs Γ H D E hl S h e
  refine ha Z σ ts gs Γ H _ D.xc _ hl S h (fun g Γ1 v H1 h1 l1 S1 => ?_) e.xc
  obtain ⟨O, d, S2, a1, h2⟩ := S1.arg1 (by have := len_of S hl; simp; omega) h1
  exact hg Z σ ts gs Γ1 H1 O v d _ _ l1 S2 a1 h2 fun Γ' σ' k l2 l3 S3 => e.nx Γ' σ' H1 k l2 l3 ⟨O, S3⟩
/-! ### while -/
def dWhile (t : DB) (b : DS) : DS := fun D Γ => ∃ (I : Gs → Prop) (μ : Gs → Nat), I Γ ∧ ∀ Γ, I Γ → t Γ (fun c Γ1 => if c = true then b { D with nx := fun Γ' => I Γ' ∧ μ Γ' < μ Γ, ct := fun Γ' => I Γ' ∧ μ Γ' < μ Γ, bk := D.nx } Γ1 else D.nx Γ1) D.xc
theorem runS_while {tc : TT} {bt : DB} {tb : TS} {db : DS} (hc : RunB K T W tc bt) (hb : RunS K T W tb db) : RunS K T W (tWhile tc tb) (dWhile bt db) := by
  intro Z σ ts gs Γ H D E hl S h e
  obtain ⟨I, μ, i0, turn⟩ := h
  refine ⟨fun m σ' H' => ∃ Γ', m = μ Γ' ∧ I Γ' ∧ Γ'.length = σ.length ∧ σ'.length = σ.length ∧ Sat K T Z (Γ' ++ gs) (σ' ++ ts) H', ⟨_, Γ, rfl, i0, hl, rfl, S⟩, ?_⟩
  rintro m σ1 H1 ⟨Γ1, rfl, i1, l1, l2, S1⟩
  refine hc Z σ1 ts gs Γ1 H1 _ D.xc _ (l1.trans l2.symm) S1 (turn Γ1 i1) (fun c Γ2 H2 k l3 S2 => ?_) (by rw [l2]; exact e.xc)
  cases c with
  | true =>
    rw [if_pos rfl]
    refine ⟨fun σ' H' => ∃ Γ', μ Γ' < μ Γ1 ∧ I Γ' ∧ Γ'.length = σ.length ∧ σ'.length = σ.length ∧ Sat K T Z (Γ' ++ gs) (σ' ++ ts) H', fun σ' H' ⟨Γ', a, b, c, d, s⟩ => ⟨_, a, Γ', rfl, b, c, d, s⟩, ?_⟩
    refine hb Z σ1 ts gs Γ2 H2 _ _ l3 S2 k ?_
    rw [l2]
    exact ⟨fun Γ' σ' H' hn a b S' => ⟨Γ', hn.2, hn.1, a, b, S'⟩, e.rt, fun Γ' σ' H' hn a b S' => e.nx Γ' σ' H' hn a b S', fun Γ' σ' H' hn a b S' => ⟨Γ', hn.2, hn.1, a, b, S'⟩, e.xc⟩
  | false => exact e.nx Γ2 σ1 H2 k (l3.trans l2) l2 S2
end
end DL

namespace DL
open PySem PySem.Spec PyProof.Rows L2 LamX
/-! ### what is walked -/
structure ItOk (K : PySem.W.Frag) (T : List (Addr × Str)) (Z : Zc) (J : It) (items : List PyData) (gs' : Gs) (ts' : L2.St) : Prop where
  go : ∀ i O Γ Γ2 ws ws2 H, i < items.length → Γ.length = ws.length → SatA K T Z O (Γ ++ gs' ++ Γ2) (ws ++ ts' ++ ws2) H → J.go i H
  stop : ∀ O Γ Γ2 ws ws2 H, Γ.length = ws.length → SatA K T Z O (Γ ++ gs' ++ Γ2) (ws ++ ts' ++ ws2) H → J.stop items.length H
  yld : ∀ i O Γ Γ2 ws ws2 H x H2, i < items.length → Γ.length = ws.length → SatA K T Z O (Γ ++ gs' ++ Γ2) (ws ++ ts' ++ ws2) H → J.yld i H x H2 → ∃ d, items[i]? = some d ∧ SatA K T Z O (Γ ++ gs' ++ Γ2) (ws ++ ts' ++ ws2) H2 ∧ At K O H2 x d
abbrev DIt := Gs → (List PyData → Gs → Prop) → GX → Prop
def RunI (K : PySem.W.Frag) (T : List (Addr × Str)) (W : WX) (wi : TI) (t : DIt) : Prop := ∀ (Z : Zc) (σ ts : L2.St) (gs Γ : Gs) (H : Hp) (Q : List PyData → Gs → Prop) (R : GX) (q : It → Hp → Prop), Γ.length = σ.length → Sat K T Z (Γ ++ gs) (σ ++ ts) H → t Γ Q R →
  (∀ items Γ' J H' gs' ts', Q items Γ' → Γ'.length = σ.length → gs'.length = ts'.length → Sat K T Z (Γ' ++ gs ++ gs') (σ ++ ts ++ ts') H' → ItOk K T Z J items gs' ts' → q J H') → XOk K T W Z ts gs σ.length R → wi σ H q
structure DI (X : Cx) (T : List (Addr × Str)) (W : WX) (tg iter : Expr) (wi : TI) (t : DIt) : Prop where
  pe : PI X tg iter wi
  run : RunI X.K T W wi t
section
variable {K : PySem.W.Frag} {T : List (Addr × Str)} {W : WX} {Z : Zc} {O : AS} {H : Hp} {Γ gs : Gs} {ws : L2.St} {g : G} {v : V} {d : PyData}
theorem SatA.last {Γ2 : Gs} {ws2 : L2.St} (S : SatA K T Z O (Γ ++ [.val d] ++ Γ2) (ws ++ [some v] ++ ws2) H) (hl : Γ.length = ws.length) : At K O H v d := by
  obtain ⟨w, e, q⟩ := S.at_ (i := Γ.length) (g := .val d) (by simp)
  rw [hl] at e
  simp at e
  subst e
  obtain ⟨v', e, t⟩ := q
  cases e
  exact t
/-- a list or a tuple -/
def iSeq (K : PySem.W.Frag) (tl : TE) : TI := fun σ H R => tl σ H fun x H1 => ∃ a, x = .ref a ∧ ((∃ xs, SqL K H1 a xs ∧ R (Itl K a) H1) ∨ (∃ xs, SqT K H1 a xs ∧ R (Itt K a) H1))
theorem pi_seq {X : Cx} {tg l : Expr} {tl : TE} (hl : PE X l tl) : PI X tg l (iSeq X.K tl) := by
  refine ⟨fun pins s σ H R I h => ?_⟩
  refine thn (hl.run pins s σ H _ I h) fun w s1 ⟨x, H1, I1, r1, a, ex, way⟩ => ?_
  subst ex
  cases r1
  have fp : ∀ b ∈ [s1.heap.objs.size], FpOk X pins H1 b := fun b hb => by
    have e : b = s1.heap.objs.size := by simpa using hb
    subst e
    exact I1.fpOk (Nat.le_refl _) (I1.hok.fresh (Nat.le_refl _))
  have kept : ∀ o : Obj, Inv X pins σ H1 { s1 with heap := s1.heap.push o } := fun o => I1.kept (t' := s1.toks) fun b ob e => Heap.get?_push_of_some _ e
  rcases way with ⟨xs, hq, q⟩ | ⟨xs, hq, q⟩
  · obtain ⟨its, rv, p, hz⟩ := I1.list hq
    exact wpAny_pyIter_list p.isList ⟨_, [_], _, _, H1, rfl, kept _, turn_list a _, ⟨_, Heap.get?_push_size _ rfl, rfl, rfl⟩, fp, q⟩
  · obtain ⟨its, rv, p, hz⟩ := I1.tuple hq
    exact wpAny_pyIter_tuple (show s1.heap.IsTuple a its.toArray from p) ⟨_, [_], _, _, H1, rfl, kept _, turn_tuple a _, ⟨_, Heap.get?_push_size _ rfl, rfl, rfl⟩, fp, q⟩
def dSeqI (da : DT) : DIt := fun Γ Q R => da Γ (fun g Γ1 => wd g fun d => match d with
  | .list l => Q l Γ1
  | .tuple l => Q l Γ1
  | _ => False) R
theorem itok_l {a : Addr} {l : List PyData} : ItOk K T Z (Itl K a) l [.val (.list l)] [some (.ref a)] := by
  have at_ : ∀ O Γ Γ2 ws ws2 H, Γ.length = ws.length → SatA K T Z O (Γ ++ [.val (.list l)] ++ Γ2) (ws ++ [some (.ref a)] ++ ws2) H → ∃ xs, SqL K H a xs ∧ Ats K O H xs l := fun O Γ Γ2 ws ws2 H hl S => by
    obtain ⟨b, xs, e, hb, hs⟩ := (S.last hl).ref_lst
    cases e
    exact ⟨xs, SqL.of hb, hs⟩
  refine ⟨fun i O Γ Γ2 ws ws2 H hi hl S => ?_, fun O Γ Γ2 ws ws2 H hl S => ?_, fun i O Γ Γ2 ws ws2 H x H2 hi hl S y => ?_⟩
  · obtain ⟨xs, hx, hs⟩ := at_ O Γ Γ2 ws ws2 H hl S
    obtain ⟨x, e, _⟩ := hs.get (List.getElem?_eq_getElem hi)
    exact ⟨xs, x, hx, e⟩
  · obtain ⟨xs, hx, hs⟩ := at_ O Γ Γ2 ws ws2 H hl S
    exact ⟨xs, hx, Nat.le_of_eq hs.len⟩
  · obtain ⟨xs, hx, hs⟩ := at_ O Γ Γ2 ws ws2 H hl S
    obtain ⟨rfl, y⟩ := y
    obtain ⟨z, e, t⟩ := hs.get (List.getElem?_eq_getElem hi)
    rw [y xs hx] at e
    cases e
    exact ⟨_, List.getElem?_eq_getElem hi, S, t⟩
theorem itok_t {a : Addr} {l : List PyData} : ItOk K T Z (Itt K a) l [.val (.tuple l)] [some (.ref a)] := by
  have at_ : ∀ O Γ Γ2 ws ws2 H, Γ.length = ws.length → SatA K T Z O (Γ ++ [.val (.tuple l)] ++ Γ2) (ws ++ [some (.ref a)] ++ ws2) H → ∃ xs, SqT K H a xs ∧ Ats K O H xs l := fun O Γ Γ2 ws ws2 H hl S => by
    obtain ⟨b, xs, e, hb, hs⟩ := (S.last hl).ref_tup
    cases e
    exact ⟨xs, hb, hs⟩
  refine ⟨fun i O Γ Γ2 ws ws2 H hi hl S => ?_, fun O Γ Γ2 ws ws2 H hl S => ?_, fun i O Γ Γ2 ws ws2 H x H2 hi hl S y => ?_⟩
  · obtain ⟨xs, hx, hs⟩ := at_ O Γ Γ2 ws ws2 H hl S
    obtain ⟨x, e, _⟩ := hs.get (List.getElem?_eq_getElem hi)
    exact ⟨xs, x, hx, e⟩
  · obtain ⟨xs, hx, hs⟩ := at_ O Γ Γ2 ws ws2 H hl S
    exact ⟨xs, hx, Nat.le_of_eq hs.len⟩
  · obtain ⟨xs, hx, hs⟩ := at_ O Γ Γ2 ws ws2 H hl S
    obtain ⟨rfl, y⟩ := y
    obtain ⟨z, e, t⟩ := hs.get (List.getElem?_eq_getElem hi)
    rw [y xs hx] at e
    cases e
    exact ⟨_, List.getElem?_eq_getElem hi, S, t⟩
theorem runI_seq {ta : TE} {da : DT} (ha : RunE K T W ta da) : RunI K T W (iSeq K ta) (dSeqI da) := by
  intro Z σ ts gs Γ H Q R q hl S h hq hx
  refine ha Z σ ts gs Γ H _ R _ hl S h (fun g Γ1 v H1 h1 l1 S1 => ?_) hx
  obtain ⟨O, d, S2, a1, h2⟩ := S1.arg1 (by have := len_of S hl; simp; omega) h1
  have a2 := a1
  cases d with
  | list l =>
    obtain ⟨a, xs, rfl, ha, hs⟩ := a1.ref_lst
    exact ⟨a, rfl, .inl ⟨xs, SqL.of ha, hq l Γ1 _ H1 [.val (.list l)] [some (.ref a)] h2 l1 rfl ⟨O, S2.val a2⟩ itok_l⟩⟩
  | tuple l =>
    obtain ⟨a, xs, rfl, ha, hs⟩ := a1.ref_tup
    exact ⟨a, rfl, .inr ⟨xs, ha, hq l Γ1 _ H1 [.val (.tuple l)] [some (.ref a)] h2 l1 rfl ⟨O, S2.val a2⟩ itok_t⟩⟩
  | _ => exact h2.elim
/-! ### enumerate -/
def enumD : Nat → List PyData → List PyData
  | _, [] => []
  | n, d :: r => .tuple [.int n, d] :: enumD (n + 1) r
theorem enumD_len : ∀ (l : List PyData) (n : Nat), (enumD n l).length = l.length
  | [], _ => rfl
  | _ :: r, n => by simp [enumD, enumD_len r]
theorem enumD_get : ∀ (l : List PyData) (n i : Nat), (enumD n l)[i]? = l[i]?.map fun d => .tuple [.int (n + i : Nat), d]
  | [], _, _ => rfl
  | d :: r, n, 0 => by simp [enumD]
  | d :: r, n, i + 1 => by
    simp only [enumD, List.getElem?_cons_succ, enumD_get r]
    have e : n + 1 + i = n + (i + 1) := by omega
    rw [e]
def iEnumX (K : PySem.W.Frag) (ta : TA) : TI := fun σ H R => ta σ H fun vs H1 => ∃ a, vs = [.ref a] ∧ ((∃ xs, SqL K H1 a xs ∧ R (Ite K a) H1) ∨ (∃ xs, SqT K H1 a xs ∧ R (IteT K a) H1))
theorem pi_enumX {X : Cx} {e : Expr} {ta : TA} {p pos tpos : Pos} {elts : List Expr} {kk : Nat} (hg : Gl X "enumerate") (hm : X.mg "enumerate" = none) (ha : PA X [e] ta) (hs : starEach [e] X.env = [(false, eval e X.env)] := by rfl) :
    PI X (.Tuple elts kk tpos) (.Call (.Name "enumerate" p) [e] [] pos) (iEnumX X.K ta) := by
  refine ⟨fun pins s σ H R I h => ?_⟩
  refine Call_ (ld_blt I hg hm boot_enumerate (PyProof.Rows.callWith_type1 (thn (ha.run pos pins s σ H _ I h) fun us s1 ⟨vs, H1, I1, r1, a, ex, way⟩ => ?_) hs rfl))
  subst ex
  obtain ⟨u, rfl, ru⟩ := vals1 r1
  cases ru
  have fp : ∀ b ∈ [s1.heap.objs.size + 1, s1.heap.objs.size], FpOk X pins H1 b := fun b hb => by
    have two : b = s1.heap.objs.size + 1 ∨ b = s1.heap.objs.size := by simpa using hb
    have hle : s1.heap.objs.size ≤ b := by omega
    exact I1.fpOk hle (I1.hok.fresh hle)
  rcases way with ⟨xs, hq, q⟩ | ⟨xs, hq, q⟩
  · obtain ⟨its, rv, p', hz⟩ := I1.list hq
    exact en_begins1 (begins_list a its.toArray) p'.isList fun h' he hit hk => wpAny_pyIter_enum he ⟨s1.heap.objs.size + 1, _, _, _, H1, rfl, I1.kept (t' := s1.toks) hk, turn_enum a (s1.heap.objs.size + 1) s1.heap.objs.size, ⟨⟨.none, he⟩, ⟨_, hit, rfl, rfl⟩, Nat.succ_ne_self _⟩, fp, q⟩
  · obtain ⟨its, rv, p', hz⟩ := I1.tuple hq
    exact en_begins1 (begins_tuple a its.toArray) (show s1.heap.IsTuple a its.toArray from p') fun h' he hit hk => wpAny_pyIter_enum he ⟨s1.heap.objs.size + 1, _, _, _, H1, rfl, I1.kept (t' := s1.toks) hk, turn_enumT a (s1.heap.objs.size + 1) s1.heap.objs.size, ⟨⟨.none, he⟩, ⟨_, hit, rfl, rfl⟩, Nat.succ_ne_self _⟩, fp, q⟩
def dEnum (dA : DA) : DIt := fun Γ Q R => dA Γ (fun rs Γ1 => wds rs fun ds => match ds with
  | [.list l] => Q (enumD 0 l) Γ1
  | [.tuple l] => Q (enumD 0 l) Γ1
  | _ => False) R
theorem enum_item {x : V} {l : List PyData} {i : Nat} {p : Addr} {Γ : Gs} {ws : L2.St} (hi : i < l.length) (S : SatA K T Z O Γ ws H) (n : H p = none) (t : At K O H x l[i]) :
    ∃ d', (enumD 0 l)[i]? = some d' ∧ SatA K T Z O Γ ws (upd H p (.tup [.int (i : Nat), x])) ∧ At K O (upd H p (.tup [.int (i : Nat), x])) (.ref p) d' := by
  refine ⟨.tuple [.int (i : Nat), l[i]], ?_, S.new1 n, .tup (S.notO n) upd_same ((Ats.cons (.int _) (.cons t .nil)).new1 n)⟩
  rw [enumD_get, List.getElem?_eq_getElem hi]
  simp
theorem itok_el {a : Addr} {l : List PyData} : ItOk K T Z (Ite K a) (enumD 0 l) [.val (.list l)] [some (.ref a)] := by
  refine ⟨fun i O Γ Γ2 ws ws2 H hi hl S => ?_, fun O Γ Γ2 ws ws2 H hl S => ?_, fun i O Γ Γ2 ws ws2 H x H2 hi hl S y => ?_⟩
  · obtain ⟨b, xs, e, hb, hs⟩ := (S.last hl).ref_lst
    cases e
    rw [enumD_len] at hi
    obtain ⟨x, e, _⟩ := hs.get (List.getElem?_eq_getElem hi)
    exact ⟨xs, x, SqL.of hb, e⟩
  · obtain ⟨b, xs, e, hb, hs⟩ := (S.last hl).ref_lst
    cases e
    exact ⟨xs, SqL.of hb, by rw [enumD_len]; exact Nat.le_of_eq hs.len⟩
  · obtain ⟨b, xs, e, hb, hs⟩ := (S.last hl).ref_lst
    cases e
    rw [enumD_len] at hi
    obtain ⟨p, z, rfl, n, rfl, y⟩ := y
    obtain ⟨z', e, t'⟩ := hs.get (List.getElem?_eq_getElem hi)
    rw [y xs (SqL.of hb)] at e
    cases e
    exact enum_item hi S n t'
theorem itok_et {a : Addr} {l : List PyData} : ItOk K T Z (IteT K a) (enumD 0 l) [.val (.tuple l)] [some (.ref a)] := by
  refine ⟨fun i O Γ Γ2 ws ws2 H hi hl S => ?_, fun O Γ Γ2 ws ws2 H hl S => ?_, fun i O Γ Γ2 ws ws2 H x H2 hi hl S y => ?_⟩
  · obtain ⟨b, xs, e, hb, hs⟩ := (S.last hl).ref_tup
    cases e
    rw [enumD_len] at hi
    obtain ⟨x, e, _⟩ := hs.get (List.getElem?_eq_getElem hi)
    exact ⟨xs, x, hb, e⟩
  · obtain ⟨b, xs, e, hb, hs⟩ := (S.last hl).ref_tup
    cases e
    exact ⟨xs, hb, by rw [enumD_len]; exact Nat.le_of_eq hs.len⟩
  · obtain ⟨b, xs, e, hb, hs⟩ := (S.last hl).ref_tup
    cases e
    rw [enumD_len] at hi
    obtain ⟨p, z, rfl, n, rfl, y⟩ := y
    obtain ⟨z', e, t'⟩ := hs.get (List.getElem?_eq_getElem hi)
    rw [y xs hb] at e
    cases e
    exact enum_item hi S n t'
theorem runI_enum {ta : TA} {dA : DA} (ha : RunA K T W ta dA) : RunI K T W (iEnumX K ta) (dEnum dA) := by
  intro Z σ ts gs Γ H Q R q hl S h hq hx
  refine ha Z σ ts gs Γ H _ R _ hl S h (fun rs Γ1 vs H1 h1 l1 S1 => ?_) hx
  obtain ⟨O, ds, S2, a1, h2⟩ := S1.args (by have := len_of S hl; simp; omega) h1
  split at h2
  · obtain ⟨x, rfl, t⟩ := a1.one
    have t2 := t
    obtain ⟨a, xs, rfl, ha, hs⟩ := t.ref_lst
    exact ⟨a, rfl, .inl ⟨xs, SqL.of ha, hq _ Γ1 _ H1 [.val (.list _)] [some (.ref a)] h2 l1 rfl ⟨O, S2.val t2⟩ itok_el⟩⟩
  · obtain ⟨x, rfl, t⟩ := a1.one
    have t2 := t
    obtain ⟨a, xs, rfl, ha, hs⟩ := t.ref_tup
    exact ⟨a, rfl, .inr ⟨xs, ha, hq _ Γ1 _ H1 [.val (.tuple _)] [some (.ref a)] h2 l1 rfl ⟨O, S2.val t2⟩ itok_et⟩⟩
  · exact h2.elim
/-! ### range -/
def rngD (lo : Int) (n : Nat) : List PyData := (List.range n).map fun i => .int (lo + (i : Nat))
theorem rngD_len (lo : Int) (n : Nat) : (rngD lo n).length = n := by simp [rngD]
theorem rngD_get {lo : Int} {n i : Nat} (h : i < n) : (rngD lo n)[i]? = some (.int (lo + (i : Nat))) := by simp [rngD, h]
theorem itok_r {lo : Int} {n : Nat} : ItOk K T Z (Itr lo n) (rngD lo n) [] [] := by
  refine ⟨fun i O Γ Γ2 ws ws2 H hi hl S => ?_, fun O Γ Γ2 ws ws2 H hl S => ?_, fun i O Γ Γ2 ws ws2 H x H2 hi hl S y => ?_⟩
  · rw [rngD_len] at hi; exact hi
  · rw [rngD_len]; exact Nat.le_refl _
  · rw [rngD_len] at hi
    obtain ⟨rfl, rfl⟩ := y
    exact ⟨_, rngD_get hi, S, .int _⟩
def dRng1 (dA : DA) : DIt := fun Γ Q R => dA Γ (fun rs Γ1 => wds rs fun ds => match ds with
  | [.int j] => -(2 ^ 62) ≤ j ∧ j < 2 ^ 62 ∧ Q (rngD 0 j.toNat) Γ1
  | _ => False) R
def dRng2 (dA : DA) : DIt := fun Γ Q R => dA Γ (fun rs Γ1 => wds rs fun ds => match ds with
  | [.int i, .int j] => (-(2 ^ 62) ≤ i ∧ i < 2 ^ 62 ∧ -(2 ^ 62) ≤ j ∧ j < 2 ^ 62) ∧ Q (rngD i (j - i).toNat) Γ1
  | _ => False) R
theorem runI_rng1 {ta : TA} {dA : DA} (ha : RunA K T W ta dA) : RunI K T W (iRng1 ta) (dRng1 dA) := by
  intro Z σ ts gs Γ H Q R q hl S h hq hx
  refine ha Z σ ts gs Γ H _ R _ hl S h (fun rs Γ1 vs H1 h1 l1 S1 => ?_) hx
  obtain ⟨O, ds, S2, a1, h2⟩ := S1.args (by have := len_of S hl; simp; omega) h1
  split at h2
  · obtain ⟨x, rfl, t⟩ := a1.one
    cases t
    exact ⟨_, rfl, h2.1, h2.2.1, hq _ Γ1 _ H1 [] [] h2.2.2 l1 rfl (by simpa using ⟨O, S2⟩) itok_r⟩
  · exact h2.elim
theorem runI_rng2 {ta : TA} {dA : DA} (ha : RunA K T W ta dA) : RunI K T W (iRng2 ta) (dRng2 dA) := by
  intro Z σ ts gs Γ H Q R q hl S h hq hx
  refine ha Z σ ts gs Γ H _ R _ hl S h (fun rs Γ1 vs H1 h1 l1 S1 => ?_) hx
  obtain ⟨O, ds, S2, a1, h2⟩ := S1.args (by have := len_of S hl; simp; omega) h1
  split at h2
  · cases a1 with
    | cons t a1 =>
      obtain ⟨y, rfl, u⟩ := a1.one
      cases t
      cases u
      exact ⟨_, _, rfl, h2.1, hq _ Γ1 _ H1 [] [] h2.2 l1 rfl (by simpa using ⟨O, S2⟩) itok_r⟩
  · exact h2.elim
/-! ### for -/
def dFor (di : DIt) (dg : PyData → Gs → (Gs → Prop) → Prop) (b : DS) : DS := fun D Γ => di Γ (fun items Γ1 => ∃ I : Nat → Gs → Prop, I 0 Γ1 ∧ (∀ i Γ d, items[i]? = some d → I i Γ → dg d Γ fun Γ' => b { D with nx := I (i + 1), ct := I (i + 1), bk := D.nx } Γ') ∧ ∀ Γ, I items.length Γ → D.nx Γ) D.xc
theorem runS_for {wi : TI} {di : DIt} {tg : TG} {dg : PyData → Gs → (Gs → Prop) → Prop} {tb : TS} {db : DS} (hi : RunI K T W wi di) (hg : RunGN K T tg dg) (hb : RunS K T W tb db) : RunS K T W (tFor wi tg tb) (dFor di dg db) := by
  intro Z σ ts gs Γ H D E hl S h e
  refine hi Z σ ts gs Γ H _ D.xc _ hl S h (fun items Γ1 J H1 gs' ts' h1 l1 lg S1 ok => ?_) e.xc
  obtain ⟨I, i0, turn, fin⟩ := h1
  have lgs := len_of S hl
  have drop : ∀ {Γ' : Gs} {σ' : L2.St} {H' : Hp}, Γ'.length = σ.length → σ'.length = σ.length → Sat K T Z (Γ' ++ gs ++ gs') (σ' ++ ts ++ ts') H' → Sat K T Z (Γ' ++ gs) (σ' ++ ts) H' := fun a b S => S.take (by simp; omega)
  refine ⟨fun i m σ' H' => ∃ Γ', m = items.length - i ∧ i ≤ items.length ∧ I i Γ' ∧ Γ'.length = σ.length ∧ σ'.length = σ.length ∧ Sat K T Z (Γ' ++ gs ++ gs') (σ' ++ ts ++ ts') H', ⟨_, Γ1, rfl, Nat.zero_le _, i0, l1, rfl, S1⟩, ?_⟩
  rintro i m σ1 H2 ⟨Γ2, rfl, hle, i1, l2, l3, S2⟩
  by_cases hlt : i < items.length
  · obtain ⟨O, S2⟩ := S2
    refine .inr ⟨ok.go i O (Γ2 ++ gs) [] (σ1 ++ ts) [] H2 hlt (by simp; omega) (by simpa [List.append_assoc] using S2), fun σ' H' => ∃ Γ', I (i + 1) Γ' ∧ Γ'.length = σ.length ∧ σ'.length = σ.length ∧ Sat K T Z (Γ' ++ gs ++ gs') (σ' ++ ts ++ ts') H', fun σ' H' ⟨Γ', a, b, c, s⟩ => ⟨items.length - (i + 1), by omega, Γ', rfl, hlt, a, b, c, s⟩, fun x H3 y => ?_⟩
    obtain ⟨d, ed, S3, t⟩ := ok.yld i O (Γ2 ++ gs) [] (σ1 ++ ts) [] H2 x H3 hlt (by simp; omega) (by simpa [List.append_assoc] using S2) y
    refine hg Z σ1 (ts ++ ts') (gs ++ gs') Γ2 H3 O x d _ _ (l2.trans l3.symm) (by simpa [List.append_assoc] using S3) t (turn i Γ2 d ed i1) fun Γ3 σ3 k l4 l5 S4 => ?_
    refine hb Z σ3 (ts ++ ts') (gs ++ gs') Γ3 H3 _ _ (l4.trans l5.symm) ⟨O, S4⟩ k ?_
    rw [show σ3.length = σ.length from l5.trans l3]
    exact ⟨fun Γ' σ' H' hn a b S' => ⟨Γ', hn, a, b, by simpa [List.append_assoc] using S'⟩,
      fun g Γ' v σ' H' hr n a b S' => e.rt g Γ' v σ' H' hr n a b (by
        obtain ⟨O', S'⟩ := S'
        exact ⟨O', SatA.mid (gs := gs') (ts := ts') (by simpa [List.append_assoc] using S') (by simp; omega) n⟩),
      fun Γ' σ' H' hn a b S' => e.nx Γ' σ' H' hn a b (drop a b (by simpa [List.append_assoc] using S')), fun Γ' σ' H' hn a b S' => ⟨Γ', hn, a, b, by simpa [List.append_assoc] using S'⟩,
      fun c Γ' σ' H' r a b S' => e.xc c Γ' σ' H' r a b (drop a b (by simpa [List.append_assoc] using S'))⟩
  · have ei : i = items.length := by omega
    subst ei
    obtain ⟨O, S2'⟩ := id S2
    exact .inl ⟨ok.stop O (Γ2 ++ gs) [] (σ1 ++ ts) [] H2 (by simp; omega) (by simpa [List.append_assoc] using S2'), e.nx Γ2 σ1 H2 (fin Γ2 i1) l2 l3 (drop l2 l3 S2)⟩
/-! ### comprehensions -/
def wipeG (Γ : Gs) : List Nat → Gs
  | [] => Γ
  | v :: vs => (wipeG Γ vs).set v .unk
theorem wipeG_len (Γ : Gs) : ∀ vs : List Nat, (wipeG Γ vs).length = Γ.length
  | [] => rfl
  | v :: vs => by simp [wipeG, wipeG_len Γ vs]
theorem wipeG_in {i : Nat} {x : G} : ∀ {vs : List Nat}, (wipeG Γ vs)[i]? = some x → x = .unk ∨ (i ∉ vs ∧ Γ[i]? = some x)
  | [], e => .inr ⟨by simp, e⟩
  | v :: vs, e => by
    unfold wipeG at e
    by_cases hi : v = i
    · subst hi
      have h1 : v < (wipeG Γ vs).length := by
        have := (List.getElem?_eq_some_iff.mp e).1
        simpa using this
      rw [List.getElem?_set_self h1] at e
      cases e; exact .inl rfl
    · rw [List.getElem?_set_ne hi] at e
      rcases wipeG_in e with h | ⟨h1, h2⟩
      · exact .inl h
      · exact .inr ⟨by simp only [List.mem_cons, not_or]; exact ⟨fun z => hi z.symm, h1⟩, h2⟩
/-- the slots at vs are forgotten, whatever stands there now -/
theorem SatA.wiped {vs : List Nat} {σ σ' ts : L2.St} (S : SatA K T Z O (Γ ++ gs) (σ ++ ts) H) (hl : Γ.length = σ.length) (l2 : σ'.length = σ.length) (same : ∀ i, i ∉ vs → σ'[i]? = σ[i]?) : SatA K T Z O (wipeG Γ vs ++ gs) (σ' ++ ts) H := by
  have lw := wipeG_len Γ vs
  have src : ∀ {j : Nat} {x : G} {w : Option V}, (wipeG Γ vs ++ gs)[j]? = some x → (σ' ++ ts)[j]? = some w → x = .unk ∨ ((Γ ++ gs)[j]? = some x ∧ (σ ++ ts)[j]? = some w) := fun {j x w} e1 e2 => by
    by_cases hj : j < Γ.length
    · rw [List.getElem?_append_left (by omega)] at e1
      rw [List.getElem?_append_left (by omega)] at e2
      rcases wipeG_in e1 with h | ⟨h1, h2⟩
      · exact .inl h
      · refine .inr ⟨by rw [List.getElem?_append_left hj]; exact h2, ?_⟩
        rw [List.getElem?_append_left (by omega), ← same j h1]; exact e2
    · refine .inr ⟨?_, ?_⟩
      · rw [List.getElem?_append_right (by omega)] at e1 ⊢
        rw [← lw]; exact e1
      · rw [List.getElem?_append_right (by omega)] at e2 ⊢
        rw [← l2]; exact e2
  refine ⟨?_, fun i x w e1 e2 => ?_, fun i j p q l m a e1 e2 e3 e4 => ?_, S.ext, S.zo, S.new, S.mo, S.lst, S.keep, S.tabs⟩
  · have := S.len
    simp at this ⊢
    omega
  · rcases src e1 e2 with rfl | ⟨h1, h2⟩
    · trivial
    · exact S.ok i x w h1 h2
  · rcases src e1 e3 with h | ⟨h1, h2⟩
    · cases h
    · rcases src e2 e4 with h | ⟨h3, h4⟩
      · cases h
      · exact S.sep i j p q l m a h1 h3 h2 h4
abbrev WF : WX := fun _ _ _ _ => False
def dYes : DB := fun Γ Q _ => Q true Γ
theorem runB_yes : RunB K T W tYes dYes := fun Z σ ts gs Γ H Q R q hl S h hq hx => hq true Γ H h hl S
def dLc (di : DIt) (dg : PyData → Gs → (Gs → Prop) → Prop) (dt : DB) (de : DT) (vs : List Nat) : DT := fun Γ Q R => di Γ (fun items Γ1 => ∃ I : Nat → List PyData → Gs → Prop, I 0 [] Γ1 ∧
  (∀ i acc Γ d, items[i]? = some d → I i acc Γ → dg d (wipeG Γ vs) fun Γ2 => dt Γ2 (fun b Γ3 => if b = true then de Γ3 (fun g Γ4 => wd g fun y => acc.length < sizeLine ∧ I (i + 1) (acc ++ [y]) (wipeG Γ4 vs)) (fun _ _ => False) else I (i + 1) acc (wipeG Γ3 vs)) (fun _ _ => False)) ∧
  ∀ acc Γ, I items.length acc Γ → Q (.own false acc) Γ) R
theorem xok_none {ts : L2.St} {gs : Gs} {n : Nat} : XOk K T WF Z ts gs n (fun _ _ => False) := fun _ _ _ _ r _ _ _ => r
theorem wipe_in {i : Nat} {σ : L2.St} : ∀ {vs : List Nat}, i ∈ vs → i < σ.length → (wipe σ vs)[i]? = some none
  | v :: vs, h, hi => by
    unfold wipe
    by_cases e : v = i
    · subst e
      rw [List.getElem?_set_self (by rw [wipe_length]; exact hi)]
    · rw [List.getElem?_set_ne e]
      rcases List.mem_cons.mp h with z | z
      · exact absurd z.symm e
      · exact wipe_in z hi
theorem wipe_eq {σ σ' : L2.St} {vs : List Nat} (l : σ'.length = σ.length) (h : ∀ i, i ∉ vs → σ'[i]? = σ[i]?) : wipe σ' vs = wipe σ vs := by
  apply List.ext_getElem?
  intro i
  by_cases hv : i ∈ vs
  · by_cases hi : i < σ.length
    · rw [wipe_in hv hi, wipe_in hv (by omega)]
    · rw [List.getElem?_eq_none (by rw [wipe_length]; omega), List.getElem?_eq_none (by rw [wipe_length]; omega)]
  · rw [wipe_out hv, wipe_out hv]; exact h i hv
/-- the target stores into the slots at vs alone -/
def TgIn (vs : List Nat) (tg : TG) : Prop := ∀ (v : V) (σ : L2.St) (H : Hp) (q : L2.St → Hp → Prop), tg v σ H q → tg v σ H fun σ' H' => (σ'.length = σ.length ∧ ∀ i, i ∉ vs → σ'[i]? = σ[i]?) ∧ q σ' H'
def TgsIn (vs : List Nat) (tg : TGs) : Prop := ∀ (v : List V) (σ : L2.St) (H : Hp) (q : L2.St → Hp → Prop), tg v σ H q → tg v σ H fun σ' H' => (σ'.length = σ.length ∧ ∀ i, i ∉ vs → σ'[i]? = σ[i]?) ∧ q σ' H'
theorem tgin_name {vs : List Nat} {i : Nat} (h : i ∈ vs) : TgIn vs (gName i) := fun v σ H q k =>
  ⟨⟨by simp, fun j hj => List.getElem?_set_ne (fun (e : i = j) => hj (by rw [← e]; exact h))⟩, k⟩
theorem tgin_nil {vs : List Nat} : TgsIn vs gNil := fun v σ H q k => ⟨k.1, ⟨rfl, fun _ _ => rfl⟩, k.2⟩
/-- stores are monotone in what is wanted -/
def TgM (tg : TG) : Prop := ∀ (v : V) (σ : L2.St) (H : Hp) (q q' : L2.St → Hp → Prop), (∀ a b, q a b → q' a b) → tg v σ H q → tg v σ H q'
def TgsM (tg : TGs) : Prop := ∀ (v : List V) (σ : L2.St) (H : Hp) (q q' : L2.St → Hp → Prop), (∀ a b, q a b → q' a b) → tg v σ H q → tg v σ H q'
theorem tgm_name {i : Nat} : TgM (gName i) := fun v σ H q q' h k => h _ _ k
theorem tgm_nil : TgsM gNil := fun v σ H q q' h k => ⟨k.1, h _ _ k.2⟩
theorem tgm_cons {tg : TG} {tgs : TGs} (h1 : TgM tg) (h2 : TgsM tgs) : TgsM (gCons tg tgs) := fun v σ H q q' h ⟨x, r, e, k⟩ =>
  ⟨x, r, e, h1 _ _ _ _ _ (fun a b k => h2 _ _ _ _ _ h k) k⟩
theorem tgm_tup {K : PySem.W.Frag} {n : Nat} {tgs : TGs} (h2 : TgsM tgs) : TgM (gTup K n tgs) := fun v σ H q q' h ⟨a, xs, e, s, l, k⟩ => ⟨a, xs, e, s, l, h2 _ _ _ _ _ h k⟩
theorem tgin_cons {vs : List Nat} {tg : TG} {tgs : TGs} (m1 : TgM tg) (m2 : TgsM tgs) (h1 : TgIn vs tg) (h2 : TgsIn vs tgs) : TgsIn vs (gCons tg tgs) := fun v σ H q ⟨x, r, e, k⟩ => by
  refine ⟨x, r, e, m1 _ _ _ _ _ (fun σ1 H1 hk => ?_) (h1 _ _ _ _ k)⟩
  obtain ⟨⟨l1, s1⟩, k1⟩ := hk
  refine m2 _ _ _ _ _ (fun σ2 H2 hk2 => ?_) (h2 _ _ _ _ k1)
  obtain ⟨⟨l2, s2⟩, k2⟩ := hk2
  exact ⟨⟨l2.trans l1, fun i hi => (s2 i hi).trans (s1 i hi)⟩, k2⟩
theorem tgin_tup {K : PySem.W.Frag} {n : Nat} {vs : List Nat} {tgs : TGs} (h2 : TgsIn vs tgs) : TgIn vs (gTup K n tgs) := fun v σ H q ⟨a, xs, e, s, l, k⟩ => ⟨a, xs, e, s, l, h2 _ _ _ _ k⟩
theorem runE_lc {wi : TI} {di : DIt} {tg : TG} {dg : PyData → Gs → (Gs → Prop) → Prop} {tt : TT} {dt : DB} {te : TE} {de : DT} {vs : List Nat} (hi : RunI K T W wi di) (hg : RunGN K T tg dg) (hin : TgIn vs tg) (hmo : TgM tg) (ht : RunB K T WF tt dt) (he : RunE K T WF te de) : RunE K T W (tLc wi tg tt te vs) (dLc di dg dt de vs) := by
  intro Z σ ts gs Γ H Q R q hl S h hq hx
  refine hi Z σ ts gs Γ H _ R _ hl S h (fun items Γ1 J H1 gs' ts' h1 l1 lg S1 ok => ?_) hx
  intro D hD
  obtain ⟨I, i0, turn, fin⟩ := h1
  have lgs := len_of S hl
  obtain ⟨O1, S1⟩ := S1
  refine ⟨fun i m H' => ∃ acc Γ', m = items.length - i ∧ i ≤ items.length ∧ I i acc Γ' ∧ Γ'.length = σ.length ∧ Sat K T Z (Γ' ++ gs ++ gs' ++ [.own false acc]) (σ ++ ts ++ ts' ++ [some (.ref D)]) H',
    ⟨_, [], Γ1, rfl, Nat.zero_le _, i0, l1, _, S1.ownL hD .nil⟩, ?_⟩
  rintro i m H2 ⟨acc, Γ2, rfl, hle, i1, l2, O2, S2⟩
  by_cases hlt : i < items.length
  · refine .inr ⟨ok.go i O2 (Γ2 ++ gs) [.own false acc] (σ ++ ts) [some (.ref D)] H2 hlt (by simp; omega) S2, fun H' => ∃ acc Γ', I (i + 1) acc Γ' ∧ Γ'.length = σ.length ∧ Sat K T Z (Γ' ++ gs ++ gs' ++ [.own false acc]) (σ ++ ts ++ ts' ++ [some (.ref D)]) H',
      fun H' ⟨acc, Γ', a, b, s⟩ => ⟨items.length - (i + 1), by omega, acc, Γ', rfl, hlt, a, b, s⟩, fun x H3 y => ?_⟩
    obtain ⟨d, ed, S3, t⟩ := ok.yld i O2 (Γ2 ++ gs) [.own false acc] (σ ++ ts) [some (.ref D)] H2 x H3 hlt (by simp; omega) S2 y
    have S4 : SatA K T Z O2 (wipeG Γ2 vs ++ (gs ++ gs' ++ [.own false acc])) (wipe σ vs ++ (ts ++ ts' ++ [some (.ref D)])) H3 := SatA.wiped (σ := σ) (by simpa [List.append_assoc] using S3) l2 (wipe_length σ vs) (fun i hi => wipe_out hi)
    have lw : (wipeG Γ2 vs).length = (wipe σ vs).length := by rw [wipeG_len, wipe_length, l2]
    refine hmo _ _ _ _ _ (fun σ3 H4 hk => ?_) (hin _ _ _ _ (hg Z (wipe σ vs) (ts ++ ts' ++ [some (.ref D)]) (gs ++ gs' ++ [.own false acc]) (wipeG Γ2 vs) H3 O2 x d _ (fun σ' H' => ∃ Γ3, (dt Γ3 _ _) ∧ Γ3.length = σ'.length ∧ Sat K T Z (Γ3 ++ (gs ++ gs' ++ [.own false acc])) (σ' ++ (ts ++ ts' ++ [some (.ref D)])) H') lw S4 t (turn i acc Γ2 d ed i1) fun Γ3 σ3 k l3 l4 S5 => ⟨Γ3, k, l3.trans l4.symm, O2, S5⟩))
    obtain ⟨⟨l3, same⟩, Γ3, k, l4, S5⟩ := hk
    rw [wipe_length] at l3
    have same' : ∀ i, i ∉ vs → σ3[i]? = σ[i]? := fun i hi => (same i hi).trans (wipe_out hi)
    have back : ∀ {Γ5 : Gs} {H5 : Hp} {a : List PyData}, Γ5.length = σ3.length → Sat K T Z (Γ5 ++ (gs ++ gs' ++ [.own false a])) (σ3 ++ (ts ++ ts' ++ [some (.ref D)])) H5 → Sat K T Z (wipeG Γ5 vs ++ gs ++ gs' ++ [.own false a]) (σ ++ ts ++ ts' ++ [some (.ref D)]) H5 := fun {Γ5 H5 a} lq S => by
      obtain ⟨O, S⟩ := S
      have := SatA.wiped (σ' := σ) (vs := vs) S lq l3.symm (fun i hi => (same' i hi).symm)
      exact ⟨O, by simpa [List.append_assoc] using this⟩
    refine ⟨wipe_eq l3 same', ?_⟩
    refine ht Z σ3 (ts ++ ts' ++ [some (.ref D)]) (gs ++ gs' ++ [.own false acc]) Γ3 H4 _ (fun _ _ => False) _ l4 S5 k (fun b Γ4 H5 k2 l5 S6 => ?_) xok_none
    cases b with
    | false => exact ⟨acc, _, k2, by rw [wipeG_len, l5, l3], back l5 S6⟩
    | true =>
      rw [if_pos rfl]
      rw [if_pos rfl] at k2
      refine he Z σ3 (ts ++ ts' ++ [some (.ref D)]) (gs ++ gs' ++ [.own false acc]) Γ4 H5 _ (fun _ _ => False) _ l5 S6 k2 (fun g Γ5 z H6 k3 l6 S7 => ?_) xok_none
      obtain ⟨O7, e, S8, t8, hz, k4⟩ := S7.arg1 (by simp; omega) k3
      have lx : (Γ5 ++ gs ++ gs').length = (σ3 ++ ts ++ ts').length := by simp; omega
      have S9 : SatA K T Z O7 (Γ5 ++ gs ++ gs' ++ [.own false acc]) (σ3 ++ ts ++ ts' ++ [some (.ref D)]) H6 := by simpa [List.append_assoc] using S8
      obtain ⟨w, e1, q1⟩ := S9.at_ (i := (Γ5 ++ gs ++ gs').length) (g := .own false acc) (by rw [List.getElem?_append_right (Nat.le_refl _), Nat.sub_self]; rfl)
      have e2 : (σ3 ++ ts ++ ts' ++ [some (V.ref D)])[(Γ5 ++ gs ++ gs').length]? = some (some (.ref D)) := by rw [lx, List.getElem?_append_right (Nat.le_refl _), Nat.sub_self]; rfl
      rw [e2] at e1
      cases e1
      obtain ⟨D', xs, eD, oD, hD', hs, _⟩ := q1
      cases eD
      have S10 := S9.mut (i := (Γ5 ++ gs ++ gs').length) (l' := acc ++ [e]) (by rw [List.getElem?_append_right (Nat.le_refl _), Nat.sub_self]; rfl) e2 (hs.snoc t8)
      rw [List.set_append_right _ _ (Nat.le_refl _), Nat.sub_self] at S10
      refine ⟨xs, hD', by rw [hs.len]; exact hz, acc ++ [e], _, k4, by rw [wipeG_len, l6, l3], back l6 ⟨O7, ?_⟩⟩
      simpa [List.append_assoc] using S10
  · have ei : i = items.length := by omega
    subst ei
    refine .inl ⟨ok.stop O2 (Γ2 ++ gs) [.own false acc] (σ ++ ts) [some (.ref D)] H2 (by simp; omega) S2, ?_⟩
    refine hq _ Γ2 _ H2 (fin acc Γ2 i1) l2 ⟨O2, SatA.mid (gs := gs') (ts := ts') S2 (by simp; omega) fun l z => nomatch z⟩
end
end DL

namespace DL
open PySem PySem.Spec PyProof.Rows L2 LamX
section
variable {K : PySem.W.Frag} {T : List (Addr × Str)} {W : WX} {Z : Zc} {O : AS} {H : Hp} {Γ gs : Gs} {ws : L2.St} {g : G} {v : V} {d : PyData} {l : List PyData}
/-! ### an own list, by its slot -/
theorem SatA.own_at {i : Nat} {p : Bool} {σ ts : L2.St} (S : SatA K T Z O (Γ ++ gs) (σ ++ ts) H) (hl : Γ.length = σ.length) (e : Γ[i]? = some (.own p l)) : ∃ a xs, σ[i]? = some (some (.ref a)) ∧ (σ ++ ts)[i]? = some (some (.ref a)) ∧ (Γ ++ gs)[i]? = some (.own p l) ∧ O a ∧ H a = some (.lst xs) ∧ Ats K O H xs l := by
  have hi : i < Γ.length := (List.getElem?_eq_some_iff.mp e).1
  have e' : (Γ ++ gs)[i]? = some (.own p l) := by rw [List.getElem?_append_left hi]; exact e
  obtain ⟨w, e2, a, xs, ew, oa, ha, hs, _⟩ := S.at_ e'
  subst ew
  exact ⟨a, xs, by rw [List.getElem?_append_left (by omega)] at e2; exact e2, e2, e', oa, ha, hs⟩
def ownQ (Γ : Gs) (i : Nat) (k : List PyData → Prop) : Prop := match Γ[i]? with
  | some (.own _ l) => k l
  | _ => False
theorem ownQ_some {i : Nat} {k : List PyData → Prop} (h : ownQ Γ i k) : ∃ p l, Γ[i]? = some (.own p l) ∧ k l := by
  unfold ownQ at h
  split at h
  · rename_i p l e
    exact ⟨p, l, e, h⟩
  · exact h.elim
/-- the own list at i becomes l -/
def putO (Γ : Gs) (i : Nat) (l : List PyData) : Gs := match Γ[i]? with
  | some (.own p _) => Γ.set i (.own p l)
  | _ => Γ
theorem putO_eq {i : Nat} {p : Bool} {l l' : List PyData} (e : Γ[i]? = some (.own p l)) : putO Γ i l' = Γ.set i (.own p l') := by
  unfold putO
  rw [e]
theorem putO_len {i : Nat} {l' : List PyData} : (putO Γ i l').length = Γ.length := by
  unfold putO
  split <;> simp
/-- len(x) -/
def dLenV (i : Nat) : DT := fun Γ Q _ => ownQ Γ i fun l => Q (.val (.int l.length)) Γ
theorem runE_lenV {i : Nat} : RunE K T W (tCB (fun xs H Q => ∃ x n, xs = [x] ∧ LenV K x H n ∧ Q (.int n) H) (tCons (tVar i) tNil)) (dLenV i) := by
  intro Z σ ts gs Γ H Q R q hl S h hq hx
  obtain ⟨p, l, e, h⟩ := ownQ_some h
  obtain ⟨O, S⟩ := S
  obtain ⟨a, xs, e1, _, _, oa, ha, hs⟩ := S.own_at hl e
  exact ⟨.ref a, e1, .ref a, xs.length, rfl, .inl ⟨xs, SqL.of ha, rfl⟩, hq _ Γ _ H h hl ⟨O, S.val (by rw [hs.len]; exact .int _)⟩⟩
/-- x[k] -/
def dIxV (i : Nat) (dk : DT) : DT := fun Γ Q R => ownQ Γ i fun _ => dk Γ (fun g Γ1 => wd g fun kd => ownQ Γ1 i fun l => match kd with
  | .int k => ∃ d, atI l k = some d ∧ Q (.val d) Γ1
  | _ => False) R
theorem runE_ixV {i : Nat} {tk : TE} {dk : DT} (hk : RunE K T W tk dk) : RunE K T W (tOp (rIx K) (tVar i) tk) (dIxV i dk) := by
  intro Z σ ts gs Γ H Q R q hl S h hq hx
  obtain ⟨p, l, e, h⟩ := ownQ_some h
  obtain ⟨O, S0⟩ := id S
  obtain ⟨a, xs, e1, _, _, oa, ha, hs⟩ := S0.own_at hl e
  refine ⟨.ref a, e1, ?_⟩
  refine hk Z σ ts gs Γ H _ R _ hl S h (fun g Γ1 v H1 h1 l1 S1 => ?_) hx
  obtain ⟨O1, kd, S2, t, h2⟩ := S1.arg1 (by have := len_of S hl; simp; omega) h1
  obtain ⟨p', l', e2, h2⟩ := ownQ_some h2
  obtain ⟨a', xs', e3, _, _, oa', ha', hs'⟩ := S2.own_at l1 e2
  rw [e1] at e3
  cases e3
  cases t with
  | int k =>
    obtain ⟨d, hd, h2⟩ := h2
    obtain ⟨z, hz, td⟩ := hs'.atI hd
    exact .inl ⟨a, xs', k, z, rfl, rfl, SqL.of ha', hz, hq _ Γ1 _ H1 h2 l1 ⟨O1, S2.val td⟩⟩
  | _ => exact h2.elim
/-- x[a:b] -/
def dSlV (i : Nat) (dl dh : DO) : DT := fun Γ Q R => ownQ Γ i fun _ => dl Γ (fun lo Γ2 => dh Γ2 (fun hi Γ3 => ownQ Γ3 i fun l => Q (.own false (cutD l lo hi)) Γ3) R) R
theorem runE_slV {i : Nat} {tl th : TO} {dl dh : DO} (hl' : RunO K T W tl dl) (hh : RunO K T W th dh) : RunE K T W (tSl (rSlX K) (tVar i) tl th) (dSlV i dl dh) := by
  intro Z σ ts gs Γ H Q R q hl S h hq hx
  obtain ⟨p, l, e, h⟩ := ownQ_some h
  obtain ⟨O, S0⟩ := id S
  obtain ⟨a, xs, e1, _, _, oa, ha, hs⟩ := S0.own_at hl e
  refine ⟨.ref a, e1, ?_⟩
  refine hl' Z σ ts gs Γ H _ R _ hl S h (fun lo Γ2 H2 h2 l2 S2 => ?_) hx
  refine hh Z σ ts gs Γ2 H2 _ R _ l2 S2 h2 (fun hi Γ3 H3 h3 l3 S3 => ?_) hx
  obtain ⟨p', l', e2, h3⟩ := ownQ_some h3
  obtain ⟨O3, S3⟩ := S3
  obtain ⟨a', xs', e3, _, _, oa', ha', hs'⟩ := S3.own_at l3 e2
  rw [e1] at e3
  cases e3
  exact .inl ⟨a, xs', rfl, SqL.of ha', fun p hp => hq _ Γ3 _ _ h3 l3 ⟨_, S3.ownL hp hs'.cut⟩⟩
theorem ty_lst {a : Addr} {xs : List V} (h : H a = some (.lst xs)) : tyV K "list" (.ref a) H := .inl ⟨rfl, xs, SqL.of h⟩
/-- x.append(e) -/
def dApp (i : Nat) (de : DT) : DT := fun Γ Q R => ownQ Γ i fun _ => de Γ (fun g Γ1 => wd g fun d => ownQ Γ1 i fun l => l.length < sizeLine ∧ Q (.val .none) (putO Γ1 i (l ++ [d]))) R
theorem SatA.put {i : Nat} {p : Bool} {σ ts : L2.St} {a : Addr} {xs : List V} {l' : List PyData} (S : SatA K T Z O (Γ ++ gs) (σ ++ ts) H) (hl : Γ.length = σ.length) (e : Γ[i]? = some (.own p l)) (e1 : σ[i]? = some (some (.ref a))) (h : Ats K O H xs l') :
    SatA K T Z O (putO Γ i l' ++ gs) (σ ++ ts) (upd H a (.lst xs)) := by
  obtain ⟨a', ys, e2, e3, e4, oa, ha, hs⟩ := S.own_at hl e
  rw [e1] at e2
  cases e2
  have := S.mut e4 e3 h
  rw [putO_eq e]
  rw [List.set_append_left _ _ (List.getElem?_eq_some_iff.mp e).1] at this
  exact this
theorem runE_app {i : Nat} {te : TE} {de : DT} (he : RunE K T W te de) : RunE K T W (tBM K "list" rAppend (tVar i) (tCons te tNil)) (dApp i de) := by
  intro Z σ ts gs Γ H Q R q hl S h hq hx
  obtain ⟨p, l, e, h⟩ := ownQ_some h
  obtain ⟨O, S0⟩ := id S
  obtain ⟨a, xs, e1, _, _, oa, ha, hs⟩ := S0.own_at hl e
  refine ⟨.ref a, e1, ty_lst ha, ?_⟩
  refine he Z σ ts gs Γ H _ R _ hl S h (fun g Γ1 v H1 h1 l1 S1 => ?_) hx
  obtain ⟨O1, d, S2, t, h2⟩ := S1.arg1 (by have := len_of S hl; simp; omega) h1
  obtain ⟨p', l', e2, hz, h2⟩ := ownQ_some h2
  obtain ⟨a', xs', e3, _, _, oa', ha', hs'⟩ := S2.own_at l1 e2
  rw [e1] at e3
  cases e3
  exact ⟨a, xs', v, rfl, rfl, ha', by rw [hs'.len]; exact hz, hq _ _ _ _ h2 (by rw [putO_len, l1]) ⟨O1, (S2.put l1 e2 e1 (hs'.snoc t)).val .non⟩⟩
/-- x.extend(e) -/
def dExt (i : Nat) (de : DT) : DT := fun Γ Q R => ownQ Γ i fun _ => de Γ (fun g Γ1 => wd g fun d => ownQ Γ1 i fun l => match d with
  | .list m => l.length + m.length ≤ sizeLine ∧ Q (.val .none) (putO Γ1 i (l ++ m))
  | _ => False) R
theorem runE_ext {i : Nat} {te : TE} {de : DT} (he : RunE K T W te de) : RunE K T W (tBM K "list" rExtend (tVar i) (tCons te tNil)) (dExt i de) := by
  intro Z σ ts gs Γ H Q R q hl S h hq hx
  obtain ⟨p, l, e, h⟩ := ownQ_some h
  obtain ⟨O, S0⟩ := id S
  obtain ⟨a, xs, e1, _, _, oa, ha, hs⟩ := S0.own_at hl e
  refine ⟨.ref a, e1, ty_lst ha, ?_⟩
  refine he Z σ ts gs Γ H _ R _ hl S h (fun g Γ1 v H1 h1 l1 S1 => ?_) hx
  obtain ⟨O1, d, S2, t, h2⟩ := S1.arg1 (by have := len_of S hl; simp; omega) h1
  obtain ⟨p', l', e2, h2⟩ := ownQ_some h2
  obtain ⟨a', xs', e3, _, _, oa', ha', hs'⟩ := S2.own_at l1 e2
  rw [e1] at e3
  cases e3
  cases d with
  | list m =>
    obtain ⟨hz, h2⟩ := h2
    obtain ⟨b, ys, rfl, hb, ht⟩ := t.ref_lst
    exact ⟨a, b, xs', ys, rfl, rfl, ha', hb, by rw [hs'.len, ht.len]; exact hz, hq _ _ _ _ h2 (by rw [putO_len, l1]) ⟨O1, (S2.put l1 e2 e1 (hs'.app ht)).val .non⟩⟩
  | _ => exact h2.elim
/-- x.pop() -/
def dPop (i : Nat) : DT := fun Γ Q _ => ownQ Γ i fun l => ∃ d, l[l.length - 1]? = some d ∧ Q (.val d) (putO Γ i l.dropLast)
theorem runE_pop {i : Nat} : RunE K T W (tBM0 K "list" rPop (tVar i)) (dPop i) := by
  intro Z σ ts gs Γ H Q R q hl S h hq hx
  obtain ⟨p, l, e, d, hd, h⟩ := ownQ_some h
  obtain ⟨O, S0⟩ := id S
  obtain ⟨a, xs, e1, _, _, oa, ha, hs⟩ := S0.own_at hl e
  obtain ⟨z, hz, t⟩ := hs.get hd
  refine ⟨.ref a, e1, ty_lst ha, a, xs, z, rfl, rfl, ha, by rw [hs.len]; exact hz, hq _ _ _ _ h (by rw [putO_len, hl]) ⟨O, (S0.put hl e e1 hs.dropLast).val ?_⟩⟩
  exact t.step (fun b o n hb _ => by rw [upd_ne (fun (z : b = a) => n (by rw [z]; exact oa))]; exact hb) fun _ _ h _ => h
/-- x.pop(k) -/
def dPopAt (i : Nat) (dk : DT) : DT := fun Γ Q R => ownQ Γ i fun _ => dk Γ (fun g Γ1 => wd g fun kd => ownQ Γ1 i fun l => match kd with
  | .int k => -(2 ^ 63) ≤ k ∧ k < 2 ^ 63 ∧ ∃ j d, seqIndex? k l.length = some j ∧ l[j]? = some d ∧ Q (.val d) (putO Γ1 i (l.eraseIdx j))
  | _ => False) R
theorem runE_popAt {i : Nat} {tk : TE} {dk : DT} (hk : RunE K T W tk dk) : RunE K T W (tBM K "list" rPopAt (tVar i) (tCons tk tNil)) (dPopAt i dk) := by
  intro Z σ ts gs Γ H Q R q hl S h hq hx
  obtain ⟨p, l, e, h⟩ := ownQ_some h
  obtain ⟨O, S0⟩ := id S
  obtain ⟨a, xs, e1, _, _, oa, ha, hs⟩ := S0.own_at hl e
  refine ⟨.ref a, e1, ty_lst ha, ?_⟩
  refine hk Z σ ts gs Γ H _ R _ hl S h (fun g Γ1 v H1 h1 l1 S1 => ?_) hx
  obtain ⟨O1, kd, S2, t, h2⟩ := S1.arg1 (by have := len_of S hl; simp; omega) h1
  obtain ⟨p', l', e2, h2⟩ := ownQ_some h2
  obtain ⟨a', xs', e3, _, _, oa', ha', hs'⟩ := S2.own_at l1 e2
  rw [e1] at e3
  cases e3
  cases t with
  | int k =>
    obtain ⟨b1, b2, j, d, hj, hd, h2⟩ := h2
    obtain ⟨z, hz, td⟩ := hs'.get hd
    refine ⟨a, xs', k, j, z, rfl, rfl, ha', b1, b2, by rw [hs'.len]; exact hj, hz, hq _ _ _ _ h2 (by rw [putO_len, l1]) ⟨O1, (S2.put l1 e2 e1 (hs'.erase j)).val ?_⟩⟩
    exact td.step (fun b o n hb _ => by rw [upd_ne (fun (z : b = a) => n (by rw [z]; exact oa'))]; exact hb) fun _ _ h _ => h
  | _ => exact h2.elim
/-- x[k] = e -/
def dSetIx (i : Nat) (dk de : DT) : DS := fun D Γ => de Γ (fun g Γ1 => ownQ Γ1 i fun _ => dk Γ1 (fun gk Γ2 => wd g fun d => wd gk fun kd => ownQ Γ2 i fun l => match kd with
  | .int k => ∃ j, ixN l.length k = some j ∧ D.nx (putO Γ2 i (l.set j d))
  | _ => False) D.xc) D.xc
theorem runS_setIx {i : Nat} {tk te : TE} {dk de : DT} (hk : RunE K T W tk dk) (he : RunE K T W te de) : RunS K T W (tAsg te (gSub (tVar i) tk rSetL)) (dSetIx i dk de) := by
  intro Z σ ts gs Γ H D E hl S h e
  refine he Z σ ts gs Γ H _ D.xc _ hl S h (fun g Γ1 v H1 h1 l1 S1 => ?_) e.xc
  have lgs := len_of S hl
  obtain ⟨p, l, e0, h1⟩ := ownQ_some h1
  obtain ⟨O1, S1'⟩ := id S1
  obtain ⟨a, xs, e1, _, _, oa, ha, hs⟩ := SatA.own_at (Γ := Γ1) (gs := gs ++ [g]) (σ := σ) (ts := ts ++ [some v]) (by simpa [List.append_assoc] using S1') l1 e0
  refine ⟨.ref a, e1, ?_⟩
  refine hk Z σ (ts ++ [some v]) (gs ++ [g]) Γ1 H1 _ D.xc _ l1 (by simpa [List.append_assoc] using S1) h1 (fun gk Γ2 vk H2 h2 l2 S2 => ?_) e.xc.weak
  have S3 : Sat K T Z (Γ2 ++ gs ++ [g, gk]) (σ ++ ts ++ [v, vk].map some) H2 := by simpa [List.append_assoc] using S2
  obtain ⟨O2, ds, S4, hs2, d, kd, eds, h3⟩ := S3.args (k := fun ds => ∃ d kd, ds = [d, kd] ∧ ownQ Γ2 i fun l => match kd with
      | .int k => ∃ j, ixN l.length k = some j ∧ D.nx (putO Γ2 i (l.set j d))
      | _ => False) (by simp; omega) (by
    obtain ⟨d1, e1, k1⟩ := wd_some h2
    obtain ⟨d2, e2, k2⟩ := wd_some k1
    rcases e1 with rfl | ⟨_, rfl, rfl⟩ <;> rcases e2 with rfl | ⟨_, rfl, rfl⟩ <;> exact ⟨_, _, rfl, k2⟩)
  subst eds
  cases hs2 with
  | cons t1 hs2 =>
    obtain ⟨x, ex, t2⟩ := hs2.one
    cases ex
    obtain ⟨p', l', e2, h3⟩ := ownQ_some h3
    obtain ⟨a', xs', e3, _, _, oa', ha', hs'⟩ := S4.own_at l2 e2
    rw [e1] at e3
    cases e3
    cases t2 with
    | int k =>
      obtain ⟨j, hj, h3⟩ := h3
      exact ⟨a, xs', k, j, rfl, rfl, ha', by rw [hs'.len]; exact hj, e.nx _ σ _ h3 (by rw [putO_len, l2]) rfl ⟨O2, S4.put l2 e2 e1 (hs'.set j t1)⟩⟩
    | _ => exact h3.elim
end
end DL

/-! calls and bodies. -/
namespace DL
open PySem PySem.Spec PyProof.Rows L2 LamX
abbrev SpP := List PyData → (G → Prop) → (Addr → Prop) → Prop
abbrev SpH := List PyData → List PyData → (G → List PyData → Prop) → (Addr → List PyData → Prop) → Prop
/-- what a call leaves of the heap: all but M, tables grown -/
structure Fr (T : List (Addr × Str)) (M : AS) (H H' : Hp) : Prop where
  keep : ∀ a o, ¬ M a → H a = some o → NT o → H' a = some o
  tabs : Tabs T H'
def ResOk (K : PySem.W.Frag) (O : AS) (H H' : Hp) (v : V) : G → Prop
  | .val d => At K O H' v d
  | .own false l => ∃ a xs, v = .ref a ∧ Fre H a ∧ H' a = some (.lst xs) ∧ Ats K (fun b => O b ∨ b = a) H' xs l
  | .raw w => v = w
  | .frz a xs => SlotF K O H' (some v) a xs
  | _ => False
/-- what may not be shared behind a result -/
def OG (O : AS) (v : V) : G → AS
  | .own _ _ => fun b => O b ∨ v = .ref b
  | _ => O
def AllL (O : AS) (H : Hp) : Prop := ∀ a, O a → ∃ xs, H a = some (.lst xs)
abbrev M0 : AS := fun _ => False
def liftP (K : PySem.W.Frag) (T : List (Addr × Str)) (ds : SpP) : Sp := fun vs H Q E => ∃ (O : AS) (as : List PyData) (Q0 : G → Prop) (R0 : Addr → Prop), AllL O H ∧ Ats K O H vs as ∧ Tabs T H ∧ ds as Q0 R0 ∧
  (∀ g v H', Q0 g → Fr T M0 H H' → ResOk K O H H' v g → Q v H') ∧ ∀ c H', R0 c → Fr T M0 H H' → E (.ref c) none H'
def liftH (K : PySem.W.Frag) (T : List (Addr × Str)) (ds : SpH) : Sp := fun vs H Q E => ∃ (O : AS) (h : Addr) (ws : List V) (hx : List V) (hd as : List PyData) (Q0 : G → List PyData → Prop) (R0 : Addr → List PyData → Prop),
  vs = .ref h :: ws ∧ O h ∧ AllL O H ∧ H h = some (.lst hx) ∧ Ats K O H hx hd ∧ Ats K O H ws as ∧ Tabs T H ∧ ds hd as Q0 R0 ∧
  (∀ g hd' hx' v H', Q0 g hd' → Fr T (fun b => b = h) H H' → H' h = some (.lst hx') → Ats K (OG O v g) H' hx' hd' → ResOk K O H H' v g → Q v H') ∧
  ∀ c hd' hx' H', R0 c hd' → Fr T (fun b => b = h) H H' → H' h = some (.lst hx') → Ats K O H' hx' hd' → E (.ref c) none H'
section
variable {K : PySem.W.Frag} {T : List (Addr × Str)} {W : WX} {Z : Zc} {O O' M : AS} {H H' : Hp} {Γ Γ' gs : Gs} {ws : L2.St} {g : G} {v : V} {d : PyData} {l : List PyData} {xs : List V} {a : Addr}
theorem SatA.freB (S : SatA K T Z O Γ ws H) (n : Fre H a) : Fre Z.B a := fun o e t => by
  by_cases m : Z.M a
  · obtain ⟨ys, r⟩ := S.lst a (S.ext a (S.mo a m))
    exact n _ r nt_lst
  · exact n _ (S.keep a o m e t) t
/-- behind a call -/
theorem SatA.next (S : SatA K T Z O Γ ws H) (F : Fr T M H H') (hM : ∀ b, M b → O b) (sub : ∀ b, O b → O' b) (new : ∀ b, O' b → O b ∨ Fre H b) (all : AllL O' H') (len : Γ'.length = Γ.length) (ZM : ∀ b, M b → Z.M b ∨ Fre Z.B b)
    (slot : ∀ (j : Nat) (g : G) (w : Option V), Γ'[j]? = some g → ws[j]? = some w → (Γ[j]? = some g ∧ ∀ (p : Bool) (l : List PyData) (a : Addr), g = .own p l → w = some (.ref a) → ¬ M a) ∨ ∃ (p : Bool) (l l' : List PyData) (a : Addr) (xs' : List V), g = .own p l' ∧ Γ[j]? = some (.own p l) ∧ w = some (.ref a) ∧ H' a = some (.lst xs') ∧ Ats K O' H' xs' l') : SatA K T Z O' Γ' ws H' := by
  have k : ∀ a o, ¬ O a → H a = some o → NT o → H' a = some o := fun a o n e t => F.keep a o (fun z => n (hM a z)) e t
  have f : ∀ a o, O' a → H a = some o → NT o → O a := fun a o h e t => (new a h).elim id fun z => (z o e t).elim
  refine ⟨by rw [len, S.len], fun j g w e1 e2 => ?_, fun i j p q l m b e1 e2 e3 e4 => ?_, fun b h => sub b (S.ext b h), S.zo, fun b h => ?_, S.mo, all, fun b o m t n => ?_, F.tabs⟩
  · rcases slot j g w e1 e2 with ⟨h, nM⟩ | ⟨p, l, l', b, xs', rfl, h, rfl, hb, hs⟩
    · have q := S.ok j g w h e2
      cases g with
      | unk => trivial
      | raw v => exact q
      | frz b ys => exact SlotF.stepN k f q
      | val d => obtain ⟨v, r, t⟩ := q; exact ⟨v, r, t.stepN k f⟩
      | own p l =>
        obtain ⟨b, ys, r, ob, hb, hs, hp⟩ := q
        exact ⟨b, ys, r, sub b ob, F.keep b _ (nM p l b rfl r) hb nt_lst, hs.stepN k f, hp⟩
    · obtain ⟨b', ys, r, ob, _, _, hp⟩ := S.ok j _ _ h e2
      cases r
      exact ⟨b, xs', rfl, sub b ob, hb, hs, hp⟩
  · have src : ∀ {j : Nat} {p : Bool} {m : List PyData} {b : Addr}, Γ'[j]? = some (.own p m) → ws[j]? = some (some (.ref b)) → ∃ p' m', Γ[j]? = some (.own p' m') := fun {j p m b} r r2 => by
      rcases slot j _ _ r r2 with ⟨h, _⟩ | ⟨_, _, _, _, _, _, h, _⟩
      · exact ⟨_, _, h⟩
      · exact ⟨_, _, h⟩
    obtain ⟨_, _, r1⟩ := src e1 e3
    obtain ⟨_, _, r2⟩ := src e2 e4
    exact S.sep i j _ _ _ _ b r1 r2 e3 e4
  · rcases new b h with z | z
    · exact S.new b z
    · exact .inr (S.freB z)
  · have e := S.keep b o m t n
    refine F.keep b o (fun z => ?_) e n
    rcases ZM b z with y | y
    · exact m y
    · exact (y _ t n).elim
/-- an own list at the end -/
theorem SatA.pushOwn (S : SatA K T Z O Γ ws H) (oa : O a) (ha : H a = some (.lst xs)) (hs : Ats K O H xs l) (nB : Fre Z.B a) (ne : ∀ (j : Nat) (p : Bool) (m : List PyData), Γ[j]? = some (.own p m) → ws[j]? ≠ some (some (.ref a))) : SatA K T Z O (Γ ++ [.own false l]) (ws ++ [some (.ref a)]) H := by
  have hl := S.len
  refine ⟨by simp [hl], fun i g w e1 e2 => ?_, fun i j p1 p2 l m b e1 e2 e3 e4 => ?_, S.ext, S.zo, S.new, S.mo, S.lst, S.keep, S.tabs⟩
  · rcases get_app e1 with ⟨h1, h2⟩ | ⟨h1, h2⟩
    · rw [List.getElem?_append_left (by omega)] at e2
      exact S.ok i g w h2 e2
    · subst h2
      rw [h1, hl] at e2
      simp at e2
      subst e2
      exact ⟨a, xs, rfl, oa, ha, hs, nB⟩
  · rcases get_app e1 with ⟨h1, h2⟩ | ⟨h1, h2⟩
    · rw [List.getElem?_append_left (by omega)] at e3
      rcases get_app e2 with ⟨h3, h4⟩ | ⟨h3, h4⟩
      · rw [List.getElem?_append_left (by omega)] at e4
        exact S.sep i j p1 p2 l m b h2 h4 e3 e4
      · rw [h3, hl] at e4
        simp at e4
        subst e4
        exact absurd e3 (ne i p1 l h2)
    · rw [h1, hl] at e3
      simp at e3
      rcases get_app e2 with ⟨h3, h4⟩ | ⟨h3, h4⟩
      · rw [List.getElem?_append_left (by omega)] at e4
        subst e3
        exact absurd e4 (ne j p2 m h4)
      · omega
theorem Fr.all (F : Fr T M H H') (all : AllL O H) (hM : ∀ b, M b → ∃ xs, H' b = some (.lst xs)) : AllL O H' := fun b h => by
  by_cases m : M b
  · exact hM b m
  · obtain ⟨xs, e⟩ := all b h
    exact ⟨xs, F.keep b _ m e nt_lst⟩
/-- behind a call that changes nothing that stood -/
theorem SatA.res0 (S : SatA K T Z O Γ ws H) (F : Fr T M0 H H') (r : ResOk K O H H' v g) : Sat K T Z (Γ ++ [g]) (ws ++ [some v]) H' := by
  have base : ∀ O' : AS, (∀ b, O b → O' b) → (∀ b, O' b → O b ∨ Fre H b) → AllL O' H' → SatA K T Z O' Γ ws H' := fun O' sub new all =>
    S.next F (fun b z => z.elim) sub new all rfl (fun b z => z.elim) fun j g w e1 e2 => .inl ⟨e1, fun _ _ _ _ _ z => z⟩
  cases g with
  | val d => exact ⟨O, (base O (fun _ h => h) (fun _ h => .inl h) (F.all S.lst fun b z => z.elim)).val r⟩
  | raw w => cases r; exact ⟨O, (base O (fun _ h => h) (fun _ h => .inl h) (F.all S.lst fun b z => z.elim)).rawv⟩
  | frz b ys => exact ⟨O, (base O (fun _ h => h) (fun _ h => .inl h) (F.all S.lst fun b z => z.elim)).push r fun _ _ z => nomatch z⟩
  | unk => exact r.elim
  | own p l =>
    cases p with
    | true => exact r.elim
    | false =>
      obtain ⟨a, xs, rfl, n, ha, hs⟩ := r
      refine ⟨_, (base (fun b => O b ∨ b = a) (fun b h => .inl h) (fun b h => h.elim .inl fun z => .inr (by rw [z]; exact n)) fun b h => ?_).pushOwn (.inr rfl) ha hs (S.freB n) fun j p m e1 e2 => ?_⟩
      · rcases h with h | rfl
        · exact F.all S.lst (fun b z => z.elim) b h
        · exact ⟨xs, ha⟩
      · obtain ⟨b, ys, e, _, hb, _⟩ := S.ok j _ _ e1 e2
        cases e
        exact n _ hb nt_lst
/-- behind a call that changes the own list at i -/
theorem SatA.res1 {i : Nat} {p : Bool} {hx' : List V} {hd' : List PyData} (S : SatA K T Z O Γ ws H) (e : Γ[i]? = some (.own p l)) (e2 : ws[i]? = some (some (.ref a))) (F : Fr T (fun b => b = a) H H') (hh : H' a = some (.lst hx')) :
    (Ats K (OG O v g) H' hx' hd' → ResOk K O H H' v g → Sat K T Z (Γ.set i (.own p hd') ++ [g]) (ws ++ [some v]) H') ∧ (Ats K O H' hx' hd' → Sat K T Z (Γ.set i (.own p hd')) ws H') := by
  obtain ⟨a', xs, ea, oa, ha, _, hp⟩ := S.ok i _ _ e e2
  cases ea
  have hi : i < Γ.length := (List.getElem?_eq_some_iff.mp e).1
  have base : ∀ O' : AS, (∀ b, O b → O' b) → (∀ b, O' b → O b ∨ Fre H b) → AllL O' H' → Ats K O' H' hx' hd' → SatA K T Z O' (Γ.set i (.own p hd')) ws H' := fun O' sub new all hs' =>
    S.next F (fun b z => by rw [z]; exact oa) sub new all (by simp) (fun b z => by
      subst z
      cases p with
      | true => exact .inl hp.2
      | false => exact .inr hp) fun j g w e1 e3 => by
      by_cases hj : i = j
      · subst hj
        rw [List.getElem?_set_self hi] at e1
        cases e1
        rw [e2] at e3
        cases e3
        exact .inr ⟨p, l, hd', a, hx', rfl, e, rfl, hh, hs'⟩
      · rw [List.getElem?_set_ne hj] at e1
        refine .inl ⟨e1, fun p' l' b eg ew z => ?_⟩
        subst eg; subst ew
        rw [z] at e3
        exact hj (S.sep i j _ _ _ _ a e e1 e2 e3)
  have all0 : AllL O H' := F.all S.lst fun b z => by rw [z]; exact ⟨hx', hh⟩
  have S0 := base O (fun _ h => h) (fun _ h => .inl h) all0
  refine ⟨fun hs r => ?_, fun hs => ⟨O, S0 hs⟩⟩
  cases g with
  | val d => exact ⟨O, (S0 hs).val r⟩
  | raw w => cases r; exact ⟨O, (S0 hs).rawv⟩
  | frz b ys => exact ⟨O, (S0 hs).push r fun _ _ z => nomatch z⟩
  | unk => exact r.elim
  | own p2 l2 =>
    cases p2 with
    | true => exact r.elim
    | false =>
      obtain ⟨b, ys, rfl, n, hb, hs2⟩ := r
      have nab : b ≠ a := fun z => by rw [z] at n; exact n _ ha nt_lst
      refine ⟨_, (base (fun c => O c ∨ c = b) (fun c h => .inl h) (fun c h => h.elim .inl fun z => .inr (by rw [z]; exact n)) (fun c h => ?_) ?_).pushOwn (.inr rfl) hb hs2 (S.freB n) fun j q m e1 e3 => ?_⟩
      · rcases h with h | rfl
        · exact all0 c h
        · exact ⟨ys, hb⟩
      · exact hs.step (fun _ _ _ h _ => h) fun c o h hc => h.elim .inl fun z => .inr (by rw [z])
      · have : ∃ q' m', Γ[j]? = some (.own q' m') := by
          by_cases hj : i = j
          · subst hj; exact ⟨_, _, e⟩
          · rw [List.getElem?_set_ne hj] at e1; exact ⟨_, _, e1⟩
        obtain ⟨_, _, r⟩ := this
        obtain ⟨c, zs, ec, _, hc, _⟩ := S.ok j _ _ r e3
        cases ec
        exact n _ hc nt_lst
/-! ### calls -/
def dCall (ds : SpP) (dA : DA) : DT := fun Γ Q R => dA Γ (fun rs Γ1 => wds rs fun as => ds as (fun g => Q g Γ1) fun _ => False) R
def dCallX (ds : SpP) (dA : DA) : DT := fun Γ Q R => dA Γ (fun rs Γ1 => wds rs fun as => ds as (fun g => Q g Γ1) fun c => R c Γ1) R
def dCallH (ds : SpH) (i : Nat) (dA : DA) : DT := fun Γ Q R => ownQ Γ i fun _ => dA Γ (fun rs Γ1 => wds rs fun as => ownQ Γ1 i fun hd => ds hd as (fun g hd' => Q g (putO Γ1 i hd')) fun _ _ => False) R
theorem runE_call {ds : SpP} {tA : TA} {dA : DA} (hA : RunA K T W tA dA) : RunE K T W (tCall (liftP K T ds) [] E0 tA) (dCall ds dA) := by
  intro Z σ ts gs Γ H Q R q hl S h hq hx
  refine hA Z σ ts gs Γ H _ R _ hl S h (fun rs Γ1 vs H1 h1 l1 S1 => ?_) hx
  obtain ⟨O, as, S2, hs, h2⟩ := S1.args (by have := len_of S hl; simp; omega) h1
  refine ⟨O, as, _, _, S2.lst, by simpa using hs, S2.tabs, h2, fun g v H' hg F r => hq g Γ1 v H' hg l1 (S2.res0 F r), fun c H' z _ => z⟩
theorem runE_callX {ds : SpP} {tA : TA} {dA : DA} (hA : RunA K T W tA dA) : RunE K T W (tCallS (liftP K T ds) (WE W) tA) (dCallX ds dA) := by
  intro Z σ ts gs Γ H Q R q hl S h hq hx
  refine hA Z σ ts gs Γ H _ R _ hl S h (fun rs Γ1 vs H1 h1 l1 S1 => ?_) hx
  obtain ⟨O, as, S2, hs, h2⟩ := S1.args (by have := len_of S hl; simp; omega) h1
  refine ⟨O, as, _, _, S2.lst, hs, S2.tabs, h2, fun g v H' hg F r => hq g Γ1 v H' hg l1 (S2.res0 F r), fun c H' r F => hx c Γ1 σ H' r l1 rfl ?_⟩
  exact ⟨O, S2.next F (fun b z => z.elim) (fun _ h => h) (fun _ h => .inl h) (F.all S2.lst fun b z => z.elim) rfl (fun b z => z.elim) fun j g w e1 e2 => .inl ⟨e1, fun _ _ _ _ _ z => z⟩⟩
theorem runE_callH {ds : SpH} {i : Nat} {tA : TA} {dA : DA} (hA : RunA K T W tA dA) : RunE K T W (tCall (liftH K T ds) [] E0 (tCons (tVar i) tA)) (dCallH ds i dA) := by
  intro Z σ ts gs Γ H Q R q hl S h hq hx
  obtain ⟨p, l, e, h⟩ := ownQ_some h
  obtain ⟨O, S0⟩ := id S
  obtain ⟨a, xs, e1, _, _, oa, ha, hs⟩ := S0.own_at hl e
  refine ⟨.ref a, e1, ?_⟩
  refine hA Z σ ts gs Γ H _ R _ hl S h (fun rs Γ1 vs H1 h1 l1 S1 => ?_) hx
  obtain ⟨O, as, S2, hs, h2⟩ := S1.args (by have := len_of S hl; simp; omega) h1
  obtain ⟨p', hd, e2, h2⟩ := ownQ_some h2
  obtain ⟨a', xs', e3, e4, e5, oa', ha', hs'⟩ := S2.own_at l1 e2
  rw [e1] at e3
  cases e3
  refine ⟨O, a, vs, xs', hd, as, _, _, by simp, oa', S2.lst, ha', hs', hs, S2.tabs, h2, fun g hd' hx' v H' hg F hh hs2 r => ?_, fun c hd' hx' H' z _ _ _ => z⟩
  refine hq g _ v H' hg (by rw [putO_len, l1]) ?_
  have := (S2.res1 (v := v) (g := g) e5 e4 F hh (hd' := hd')).1 hs2 r
  rw [putO_eq e2]
  rw [List.set_append_left _ _ (List.getElem?_eq_some_iff.mp e2).1] at this
  exact this
/-! ### bodies -/
def startG (n : Nat) (as : List PyData) : Gs := as.map G.val ++ List.replicate (n - as.length) .unk
theorem sat_vals {vs : List V} {as : List PyData} (hs : Ats K O H vs as) : ∀ {Γ : Gs} {ws : L2.St}, SatA K T Z O Γ ws H → SatA K T Z O (Γ ++ as.map G.val) (ws ++ vs.map some) H := by
  induction vs generalizing as with
  | nil => intro Γ ws S; cases hs; simpa using S
  | cons v vs ih =>
    intro Γ ws S
    cases hs with
    | cons a b =>
      have := ih b (S.val a)
      simpa [List.append_assoc] using this
theorem sat_unk (n : Nat) : ∀ {Γ : Gs} {ws : L2.St}, SatA K T Z O Γ ws H → SatA K T Z O (Γ ++ List.replicate n .unk) (ws ++ List.replicate n none) H := by
  induction n with
  | zero => intro Γ ws S; simpa using S
  | succ n ih =>
    intro Γ ws S
    have := ih (S.push (g := .unk) (w := none) trivial fun _ _ z => nomatch z)
    simpa [List.append_assoc, List.replicate_succ] using this
/-- the entry's own context -/
def zP (H : Hp) (O : AS) : Zc := ⟨H, M0, O, fun _ => 0⟩
def zH (H : Hp) (O : AS) (h : Addr) : Zc := ⟨H, fun b => b = h, O, fun _ => h⟩
theorem sat_nil (all : AllL O H) (t : Tabs T H) : SatA K T (zP H O) O [] [] H :=
  ⟨rfl, (fun i g w e => by simp at e), (fun i j p q l m a e => by simp at e), fun _ h => h, (fun a h z => by obtain ⟨xs, e⟩ := all a h; exact z _ e nt_lst), fun _ h => .inl h, fun _ h => h.elim, all, fun a o _ e _ => e, t⟩
theorem sat_one {h : Addr} {hx : List V} {hd : List PyData} (all : AllL O H) (t : Tabs T H) (oh : O h) (e : H h = some (.lst hx)) (hs : Ats K O H hx hd) : SatA K T (zH H O h) O [.own true hd] [some (.ref h)] H := by
  refine ⟨rfl, fun i g w e1 e2 => ?_, fun i j p q l m a e1 e2 _ _ => ?_, fun _ h => h, (fun a h z => by obtain ⟨xs, e⟩ := all a h; exact z _ e nt_lst), fun _ h => .inl h, (fun b hb => by rw [show b = h from hb]; exact oh), all, fun a o _ e _ => e, t⟩
  · match i with
    | 0 =>
      simp at e1 e2
      subst e1; subst e2
      exact ⟨h, hx, rfl, oh, e, hs, rfl, rfl⟩
    | i + 1 => simp at e1
  · match i, j with
    | 0, 0 => rfl
    | i + 1, _ => simp at e1
    | 0, j + 1 => simp at e2
theorem frP {O2 : AS} {Γ : Gs} {ws : L2.St} (S : SatA K T (zP H O) O2 Γ ws H') : Fr T M0 H H' := ⟨fun a o n e t => S.keep a o n e t, S.tabs⟩
theorem frH {O2 : AS} {h : Addr} {Γ : Gs} {ws : L2.St} (S : SatA K T (zH H O h) O2 Γ ws H') : Fr T (fun b => b = h) H H' := ⟨fun a o n e t => S.keep a o n e t, S.tabs⟩
theorem At.less {O2 : AS} (h : At K O2 H v d) (sub : ∀ b, O b → O2 b) : At K O H v d := h.step (fun _ _ _ h _ => h) fun b o h _ => sub b h
theorem Ats.less {O2 : AS} {vs : List V} {as : List PyData} (h : Ats K O2 H vs as) (sub : ∀ b, O b → O2 b) : Ats K O H vs as := h.step (fun _ _ _ h _ => h) fun b o h _ => sub b h
theorem res_of {Z : Zc} {O2 : AS} {Γ : Gs} {ws : L2.St} (S : SatA K T Z O2 (Γ ++ [g]) (ws ++ [some v]) H') (hl : Γ.length = ws.length) (n : ∀ l, g ≠ .own true l) (u : g ≠ .unk) : ResOk K Z.O Z.B H' v g := by
  obtain ⟨w, e, q⟩ := S.at_ (i := Γ.length) (g := g) (by simp)
  rw [hl] at e
  simp at e
  subst e
  cases g with
  | unk => exact absurd rfl u
  | raw w => cases q; rfl
  | frz b ys => exact ⟨q.1, q.2.elim (fun ⟨n, e⟩ => .inl ⟨fun z => n (S.ext _ z), e⟩) .inr⟩
  | val d => obtain ⟨v', e, t⟩ := q; cases e; exact t.less S.ext
  | own p l =>
    cases p with
    | true => exact absurd rfl (n l)
    | false =>
      obtain ⟨a, xs, e, oa, ha, hs, hb⟩ := q
      cases e
      exact ⟨a, xs, rfl, hb, ha, hs.less fun b h => h.elim (S.ext b) fun z => by rw [z]; exact oa⟩
end
/-- a def of data alone: no exception leaves it -/
theorem dfnP {P : Program} {w : World} {K : PySem.W.Frag} {mg : Str → Option Value} {base : Heap} {T : List (Addr × Str)} {x qual : Str} {st : Stmt} {f : Addr} {fd : FuncData} {N ps : List Str} {k : Nat} (F : Fun K x qual st f fd) (S : FnScope N ps (defScope st)) (ds : SpP) (hlen : ∀ as Q R, ds as Q R → as.length = ps.length)
    (hbody : ∀ (cdv : Value) (A : Around) (outer : List Env) (s : Shared) (H : Hp) (E : XK), Room k (A.deeper (envOfC qual (defScope st) s.heap.objs.size f cdv)) → ∀ as Q0 R0, ds as Q0 R0 →
      ∃ tS dS, DSs (cxOf CX0 P w K mg base N qual (defScope st) f cdv A outer s H E).nox T WF (defBody st) tS dS ∧ dS { nx := fun _ => Q0 (.val .none), rt := fun g _ => g ≠ .unk ∧ Q0 g } (startG N.length as)) :
    FnOk P w K mg base CX0 (k + 1) f fd ps (liftP K T ds) := by
  refine F.ok S (fun vs H Q E h => ?_) (fun cdv A outer s H vs Q E hr h => ?_)
  · obtain ⟨O, as, Q0, R0, _, hs, _, hd, _⟩ := h
    exact hs.len.trans (hlen as Q0 R0 hd)
  · obtain ⟨O, as, Q0, R0, all, hs, ht, hd, hq, _⟩ := h
    obtain ⟨tS, dS, D, hw⟩ := hbody cdv A outer s H E hr as Q0 R0 hd
    refine ⟨tS, D.pe, ?_⟩
    have el := hs.len
    have S0 : SatA K T (zP H O) O (startG N.length as) (start N vs) H := by
      have := sat_unk (N.length - as.length) (sat_vals hs (sat_nil (K := K) all ht))
      unfold startG L2.start
      rw [el]
      simpa using this
    refine D.run (zP H O) (start N vs) [] [] (startG N.length as) H _ _ S0.len (by simpa using ⟨O, S0⟩) hw ⟨fun Γ' σ' H' hn a b S' => ?_, fun g Γ' v σ' H' hr n a b S' => ?_, fun Γ' σ' H' z => z.elim, fun Γ' σ' H' z => z.elim, fun c Γ' σ' H' z => z.elim⟩
    · obtain ⟨O', S'⟩ := S'
      exact hq _ _ H' hn (frP S') .non
    · obtain ⟨O', S'⟩ := S'
      exact hq g v H' hr.2 (frP S') (res_of (Z := zP H O) S' (by simp; omega) n hr.1)
/-- a def that may raise -/
theorem dfnX {P : Program} {w : World} {K : PySem.W.Frag} {mg : Str → Option Value} {base : Heap} {T : List (Addr × Str)} {x qual : Str} {st : Stmt} {f : Addr} {fd : FuncData} {N ps : List Str} {k : Nat} (F : Fun K x qual st f fd) (S : FnScope N ps (defScope st)) (ds : SpP) (hlen : ∀ as Q R, ds as Q R → as.length = ps.length)
    (hbody : ∀ (cdv : Value) (A : Around) (outer : List Env) (s : Shared) (H : Hp) (E : XK), Room k (A.deeper (envOfC qual (defScope st) s.heap.objs.size f cdv)) → Takes (cxOf (L2.CX P w) P w K mg base N qual (defScope st) f cdv A outer s H E) (fun cls d _ H' => E cls d H') → ∀ as Q0 R0, ds as Q0 R0 →
      ∃ tS dS, DSs (cxOf (L2.CX P w) P w K mg base N qual (defScope st) f cdv A outer s H E) T (fun cls d _ H' => E cls d H') (defBody st) tS dS ∧ dS { nx := fun _ => Q0 (.val .none), rt := fun g _ => g ≠ .unk ∧ Q0 g, xc := fun c _ => R0 c } (startG N.length as)) :
    FnOk P w K mg base (L2.CX P w) (k + 1) f fd ps (liftP K T ds) := by
  refine F.okX S (fun vs H Q E h => ?_) (fun cdv A outer s H vs Q E hr h => ?_)
  · obtain ⟨O, as, Q0, R0, _, hs, _, hd, _⟩ := h
    exact hs.len.trans (hlen as Q0 R0 hd)
  · obtain ⟨O, as, Q0, R0, all, hs, ht, hd, hq, hx⟩ := h
    obtain ⟨tS, dS, D, hw⟩ := hbody cdv A outer s H E hr (takes_of rfl rfl rfl rfl) as Q0 R0 hd
    refine ⟨tS, D.pe, ?_⟩
    have el := hs.len
    have S0 : SatA K T (zP H O) O (startG N.length as) (start N vs) H := by
      have := sat_unk (N.length - as.length) (sat_vals hs (sat_nil (K := K) all ht))
      unfold startG L2.start
      rw [el]
      simpa using this
    refine D.run (zP H O) (start N vs) [] [] (startG N.length as) H _ _ S0.len (by simpa using ⟨O, S0⟩) hw ⟨fun Γ' σ' H' hn a b S' => ?_, fun g Γ' v σ' H' hr n a b S' => ?_, fun Γ' σ' H' z => z.elim, fun Γ' σ' H' z => z.elim, fun c Γ' σ' H' r a b S' => ?_⟩
    · obtain ⟨O', S'⟩ := S'
      exact hq _ _ H' hn (frP S') .non
    · obtain ⟨O', S'⟩ := S'
      exact hq g v H' hr.2 (frP S') (res_of (Z := zP H O) S' (by simp; omega) n hr.1)
    · obtain ⟨O', S'⟩ := S'
      exact hx c H' r (frP S')
/-- a def that changes its first argument, a list -/
theorem dfnH {P : Program} {w : World} {K : PySem.W.Frag} {mg : Str → Option Value} {base : Heap} {T : List (Addr × Str)} {x qual : Str} {st : Stmt} {f : Addr} {fd : FuncData} {N ps : List Str} {k : Nat} (F : Fun K x qual st f fd) (S : FnScope N ps (defScope st)) (ds : SpH) (hlen : ∀ hd as Q R, ds hd as Q R → as.length + 1 = ps.length)
    (hbody : ∀ (cdv : Value) (A : Around) (outer : List Env) (s : Shared) (H : Hp) (E : XK), Room k (A.deeper (envOfC qual (defScope st) s.heap.objs.size f cdv)) → ∀ hd as Q0 R0, ds hd as Q0 R0 →
      ∃ tS dS, DSs (cxOf CX0 P w K mg base N qual (defScope st) f cdv A outer s H E).nox T WF (defBody st) tS dS ∧ dS { nx := fun Γ => ownQ Γ 0 fun hd' => Γ[0]? = some (.own true hd') ∧ Q0 (.val .none) hd', rt := fun g Γ => g ≠ .unk ∧ ownQ Γ 0 fun hd' => Γ[0]? = some (.own true hd') ∧ Q0 g hd' } (.own true hd :: startG (N.length - 1) as)) :
    FnOk P w K mg base CX0 (k + 1) f fd ps (liftH K T ds) := by
  refine F.ok S (fun vs H Q E h => ?_) (fun cdv A outer s H vs Q E hr h => ?_)
  · obtain ⟨O, h, ws, hx, hd, as, Q0, R0, rfl, _, _, _, _, hs, _, hd, _⟩ := h
    simp [hs.len, hlen _ as Q0 R0 hd]
  · obtain ⟨O, h, ws, hx, hd, as, Q0, R0, rfl, oh, all, eh, hhs, hs, ht, hd0, hq, _⟩ := h
    obtain ⟨tS, dS, D, hw⟩ := hbody cdv A outer s H E hr hd as Q0 R0 hd0
    refine ⟨tS, D.pe, ?_⟩
    have el := hs.len
    have S0 : SatA K T (zH H O h) O (.own true hd :: startG (N.length - 1) as) (start N (.ref h :: ws)) H := by
      have := sat_unk (N.length - 1 - as.length) (sat_vals hs (sat_one all ht oh eh hhs))
      unfold startG L2.start
      have e : N.length - (V.ref h :: ws).length = N.length - 1 - as.length := by simp [el]; omega
      rw [e]
      simpa using this
    have fin : ∀ {g : G} {v : V} {Γ' : Gs} {σ' : L2.St} {H' : Hp} {O' : AS} {hd' : List PyData}, SatA K T (zH H O h) O' (Γ' ++ [g]) (σ' ++ [some v]) H' → Γ'.length = σ'.length → (∀ l, g ≠ .own true l) → g ≠ .unk → Γ'[0]? = some (.own true hd') → Q0 g hd' → Q v H' := fun {g v Γ' σ' H' O' hd'} S' hl n u e0 hq0 => by
      have h0 : 0 < Γ'.length := (List.getElem?_eq_some_iff.mp e0).1
      obtain ⟨wv, e1, a, xs, ea, oa, ha, hs', hp⟩ := S'.at_ (i := 0) (g := .own true hd') (by rw [List.getElem?_append_left h0]; exact e0)
      have eh : a = h := hp.1
      subst eh
      have r := res_of (Z := zH H O a) S' hl n u
      refine hq g hd' xs v H' hq0 (frH S') ha (hs'.less fun b hb => ?_) r
      cases g with
      | own p l =>
        rcases hb with hb | hb
        · exact S'.ext b hb
        · cases p with
          | true => exact absurd rfl (n l)
          | false =>
            obtain ⟨w, e2, q⟩ := S'.at_ (i := Γ'.length) (g := .own false l) (by simp)
            rw [hl] at e2
            simp at e2
            subst e2
            obtain ⟨c, ys, ec, oc, _⟩ := q
            rw [hb] at ec
            cases ec
            exact oc
      | _ => exact S'.ext b hb
    refine D.run (zH H O h) (start N (.ref h :: ws)) [] [] _ H _ _ S0.len (by simpa using ⟨O, S0⟩) hw ⟨fun Γ' σ' H' hn a b S' => ?_, fun g Γ' v σ' H' hr n a b S' => ?_, fun Γ' σ' H' z => z.elim, fun Γ' σ' H' z => z.elim, fun c Γ' σ' H' z => z.elim⟩
    · obtain ⟨O', S'⟩ := S'
      have S' : SatA K T (zH H O h) O' (Γ' ++ []) (σ' ++ []) H' := S'
      obtain ⟨p, hd', e1, e2, k1⟩ := ownQ_some hn
      exact fin (g := .val .none) ((by simpa using S' : SatA K T (zH H O h) O' Γ' σ' H').val .non) (by omega) (fun l z => nomatch z) (fun z => nomatch z) e2 k1
    · obtain ⟨O', S'⟩ := S'
      have S' : SatA K T (zH H O h) O' (Γ' ++ [] ++ [g]) (σ' ++ [] ++ [some v]) H' := S'
      obtain ⟨p, hd', e1, e2, k1⟩ := ownQ_some hr.2
      exact fin (by simpa using S') (by omega) n hr.1 e2 k1
end DL

/-! the rules by name: the text's and the data's together. -/
namespace DL
open PySem PySem.Spec PyProof.Rows L2 LamX
structure DOp (X : Cx) (T : List (Addr × Str)) (W : WX) (e : Option Expr) (te : TO) (t : DO) : Prop where
  pe : PO X e te
  run : RunO X.K T W te t
structure DGt (X : Cx) (T : List (Addr × Str)) (tg : Expr) (g : TG) (t : PyData → Gs → (Gs → Prop) → Prop) : Prop where
  pe : PG X tg g
  run : RunGN X.K T g t
  mo : TgM g
structure DGts (X : Cx) (T : List (Addr × Str)) (tg : List Expr) (g : TGs) (t : List PyData → Gs → (Gs → Prop) → Prop) : Prop where
  pe : PGs X tg g
  run : RunGNs X.K T g t
  mo : TgsM g
structure DTs (X : Cx) (T : List (Addr × Str)) (W : WX) (es : List Expr) (te : TT) (t : DB) : Prop where
  pe : PTs X es te
  run : RunB X.K T W te t
structure BinR (X : Cx) (T : List (Addr × Str)) (op : Operator) (r : R2) (f : PyData → PyData → (G → Prop) → Prop) : Prop where
  pe : OpR X (binaryOp op) r
  ok : BinOk X.K T r f
structure CmpR (X : Cx) (T : List (Addr × Str)) (op : CmpOp) (r : R2) (f : PyData → PyData → (G → Prop) → Prop) : Prop where
  pe : OpR X (compareOp op) r
  ok : BinOk X.K T r f
section
variable {X : Cx} {T : List (Addr × Str)} {W : WX} {a b c e : Expr} {es rest : List Expr} {ta tb tc te : TE} {da db dc de : DT} {tA : TA} {dA : DA} {tt tu : TT} {bt bu : DB} {pos : Pos}
/-! ### expressions -/
theorem e_var (i : Nat) {x : Str} {pos : Pos} (hN : X.N[i]? = some x := by rfl) (hv : Vis X.env.scope x := by first | exact Or.inl rfl | exact Or.inr (Or.inl rfl) | exact Or.inr (Or.inr rfl)) (hd : (x == ("__debug__" : Str)) = false := by decide)
    (hcd : (x == ("__classdict__" : Str)) = false := by decide) : DE X T W (.Name x pos) (tVar i) (dVar i) := ⟨pe_var hN hv hd hcd, runE_var⟩
theorem e_int {i : Int} {j : Nat} : DE X T W (.Constant (.int i) j pos) (tC (.int i)) (dC (.int i)) := ⟨pe_int, runE_c fun _ _ => .int i⟩
theorem e_bl {i : Bool} {j : Nat} : DE X T W (.Constant (.bool i) j pos) (tC (.bl i)) (dC (.bool i)) := ⟨pe_bl, runE_c fun _ _ => .bl i⟩
theorem e_non {j : Nat} : DE X T W (.Constant .none j pos) (tC .non) (dC .none) := ⟨pe_non, runE_c fun _ _ => .non⟩
theorem e_str {i : Str} {j : Nat} : DE X T W (.Constant (.str i) j pos) (tC (.str i)) (dC (.str i)) := ⟨pe_str, runE_c fun _ _ => .str i⟩
/-- a constant of the module -/
theorem e_kint {x : Str} {i : Int} {t : Tok} (hg : Gl X x) (hm : X.mg x = some (.int i t)) (hd : (x == ("__debug__" : Str)) = false := by decide) : DE X T W (.Name x pos) (tC (.int i)) (dC (.int i)) := ⟨pe_glob hg hm ⟨_, rfl⟩ hd, runE_c fun _ _ => .int i⟩
theorem e_kstr {x i : Str} {t : Tok} (hg : Gl X x) (hm : X.mg x = some (.str i t)) (hd : (x == ("__debug__" : Str)) = false := by decide) : DE X T W (.Name x pos) (tC (.str i)) (dC (.str i)) := ⟨pe_glob hg hm ⟨_, rfl⟩ hd, runE_c fun _ _ => .str i⟩
theorem as_nil : DAs X T W [] tNil dNil := ⟨pa_nil, runA_nil⟩
theorem as_cons (h1 : DE X T W e te de) (h2 : DAs X T W es tA dA) (hs : starEach (e :: es) X.env = (false, eval e X.env) :: starEach es X.env := by rfl) : DAs X T W (e :: es) (tCons te tA) (dCons de dA) := ⟨pa_cons h1.pe h2.pe hs, runA_cons h1.run h2.run⟩
theorem e_tup {k : Nat} (h : DAs X T W es tA dA) : DE X T W (.Tuple es k pos) (tTup tA) (dTup dA) := ⟨pe_tup h.pe, runE_tup h.run⟩
theorem e_lst (h : DAs X T W es tA dA) : DE X T W (.List es pos) (tLst tA) (dLst dA) := ⟨pe_lst h.pe, runE_lst h.run⟩
theorem e_bin {op : Operator} {r : R2} {f : PyData → PyData → (G → Prop) → Prop} (o : BinR X T op r f) (h1 : DE X T W a ta da) (h2 : DE X T W b tb db) : DE X T W (.BinOp a op b pos) (tOp r ta tb) (dOp f da db) := ⟨pe_op o.pe h1.pe h2.pe, runE_op o.ok h1.run h2.run⟩
theorem b_add : BinR X T .Add (rAddA X.K) fAdd := ⟨op_addA, ok_add⟩
theorem b_mul : BinR X T .Mult (rMulA X.K) fMul := ⟨op_mulA, ok_mul⟩
theorem b_sub : BinR X T .Sub (rI0 fun i j => .int (i - j)) (fI0 fun i j => .int (i - j)) := ⟨op_sub, ok_I0 fun _ _ _ _ => .int _⟩
theorem b_fdiv : BinR X T .FloorDiv (rI CDiv fun i j => .int (i / j)) (fI CDiv fun i j => .int (i / j)) := ⟨op_fdiv, ok_I fun _ _ _ _ => .int _⟩
theorem b_mod : BinR X T .Mod (rI (fun _ j => 0 < j) fun i j => .int (i % j)) (fI (fun _ j => 0 < j) fun i j => .int (i % j)) := ⟨op_mod, ok_I fun _ _ _ _ => .int _⟩
theorem b_pow : BinR X T .Pow (rI CPow fun i j => .int (i ^ j.toNat)) (fI CPow fun i j => .int (i ^ j.toNat)) := ⟨op_pow, ok_I fun _ _ _ _ => .int _⟩
theorem e_cmp {op : CmpOp} {r : R2} {f : PyData → PyData → (G → Prop) → Prop} (o : CmpR X T op r f) (h1 : DE X T W a ta da) (h2 : DE X T W b tb db) (hm : behindInMarks op b = false := by first | exact nomark _ | rfl) : DE X T W (.Compare a [op] [b] pos) (tOp r ta tb) (dOp f da db) := ⟨pe_cmpR o.pe h1.pe h2.pe hm, runE_op o.ok h1.run h2.run⟩
theorem t_cmp {op : CmpOp} {r : R2} {f : PyData → PyData → (G → Prop) → Prop} (o : CmpR X T op r f) (h1 : DE X T W a ta da) (h2 : DE X T W b tb db) (hm : behindInMarks op b = false := by first | exact nomark _ | rfl) : DTe X T W (.Compare a [op] [b] pos) (tTest (tOp r ta tb)) (dTest (dOp f da db)) := ⟨pt_cmpR o.pe h1.pe h2.pe hm, runB_test (runE_op o.ok h1.run h2.run)⟩
theorem c_eq (hu : X.A.units + 64 < cLine) : CmpR X T .Eq (rEqA X.K) fEq := ⟨op_eqA hu, ok_eq⟩
theorem c_ne (hu : X.A.units + 64 < cLine) : CmpR X T .NotEq (rNeA X.K) fNe := ⟨op_neA hu, ok_ne⟩
theorem c_lt : CmpR X T .Lt rLtA fLt := ⟨op_ltA, ok_lt⟩
theorem c_le : CmpR X T .LtE (rI0 fun i j => .bl (decide (i ≤ j))) (fI0 fun i j => .bool (decide (i ≤ j))) := ⟨op_le, ok_I0 fun _ _ _ _ => .bl _⟩
theorem c_gt : CmpR X T .Gt (rI0 fun i j => .bl (decide (j < i))) (fI0 fun i j => .bool (decide (j < i))) := ⟨op_gt, ok_I0 fun _ _ _ _ => .bl _⟩
theorem c_ge : CmpR X T .GtE (rI0 fun i j => .bl (decide (j ≤ i))) (fI0 fun i j => .bool (decide (j ≤ i))) := ⟨op_ge, ok_I0 fun _ _ _ _ => .bl _⟩
theorem c_isB : CmpR X T .Is rIsB (fIsB false) := ⟨op_isBl, ok_isB⟩
theorem c_notB : CmpR X T .IsNot rNotB (fIsB true) := ⟨op_notBl, ok_notB⟩
theorem c_isN : CmpR X T .Is (fun x y H Q => y = .non ∧ Q (.bl (decide (x = .non))) H) (fun d e Q => e = .none ∧ Q (.val (.bool (isNo d)))) := ⟨op_isN, ok_isN⟩
theorem c_notN : CmpR X T .IsNot (fun x y H Q => y = .non ∧ Q (.bl (!decide (x = .non))) H) (fun d e Q => e = .none ∧ Q (.val (.bool (!isNo d)))) := ⟨op_notN, ok_notN⟩
theorem e_ix (h1 : DE X T W a ta da) (h2 : DE X T W b tb db) (hs : PlainIx b := by intro _ _; rfl) : DE X T W (.Subscript a b pos) (tOp (rIx X.K) ta tb) (dOp fIx da db) := ⟨pe_ix ix_seq h1.pe h2.pe hs, runE_op ok_ix h1.run h2.run⟩
theorem o_none : DOp X T W none tNoPart dNoPart := ⟨po_none, runO_none⟩
theorem o_some (h : DE X T W e te de) : DOp X T W (some e) (tPart te) (dPart de) := ⟨po_some h.pe, runO_some h.run⟩
theorem e_sl {lo hi : Option Expr} {tl th : TO} {dl dh : DO} {p2 : Pos} (h : DE X T W e te de) (h1 : DOp X T W lo tl dl) (h2 : DOp X T W hi th dh) : DE X T W (.Subscript e (.Slice lo hi none p2) pos) (tSl (rSlX X.K) te tl th) (dSl de dl dh) := ⟨pe_slice sl_any h.pe h1.pe h2.pe, runE_sl h.run h1.run h2.run⟩
theorem e_rev {k : Nat} {p1 p2 p3 : Pos} (h : DE X T W e te de) : DE X T W (.Subscript e (.Slice none none (some (.UnaryOp .USub (.Constant (.int 1) k p1) p2)) p3) pos) (tRevL X.K te) (dRevL de) := ⟨pe_revL h.pe, runE_rev h.run⟩
theorem e_andV (h1 : DE X T W a ta da) (h2 : DE X T W (.BoolOp .And (b :: rest) pos) tb db) : DE X T W (.BoolOp .And (a :: b :: rest) pos) (tAndV ta tb) (dAndV da db) := ⟨pe_and h1.pe h2.pe, runE_andV h1.run h2.run⟩
theorem e_orV (h1 : DE X T W a ta da) (h2 : DE X T W (.BoolOp .Or (b :: rest) pos) tb db) : DE X T W (.BoolOp .Or (a :: b :: rest) pos) (tOrV ta tb) (dOrV da db) := ⟨pe_or h1.pe h2.pe, runE_orV h1.run h2.run⟩
theorem e_one {op : BoolOp} (h1 : DE X T W a ta da) : DE X T W (.BoolOp op [a] pos) ta da := ⟨pe_one h1.pe, h1.run⟩
theorem e_notV (h1 : DE X T W a ta da) : DE X T W (.UnaryOp .Not a pos) (tNotV ta) (dNotV da) := ⟨pe_not h1.pe, runE_notV h1.run⟩
theorem e_ife (h : DTe X T W c tt bt) (h1 : DE X T W a ta da) (h2 : DE X T W b tb db) : DE X T W (.IfExp c a b pos) (tIf tt ta tb) (dIf bt da db) := ⟨pe_ifExp h.pe h1.pe h2.pe, runE_if h.run h1.run h2.run⟩
/-! ### tests -/
theorem t_val (h : DE X T W e te de) (he : ∀ whole, isTrue e X.env whole = (do let v ← whole; standAt e.pos; holding [v] (truthy v)) := by intro _; rfl) : DTe X T W e (tB te) (dTest de) := ⟨pt_val h.pe he, runB_B h.run⟩
theorem w_and1 (h : DTe X T W a tt bt) : DW X T W (.BoolOp .And [a] pos) tt bt := ⟨pw_and1 h.pe, h.run⟩
theorem w_or1 (h : DTe X T W a tt bt) : DW X T W (.BoolOp .Or [a] pos) tt bt := ⟨pw_or1 h.pe, h.run⟩
theorem w_and (h1 : DTe X T W a tt bt) (h2 : DW X T W (.BoolOp .And (b :: rest) pos) tu bu) : DW X T W (.BoolOp .And (a :: b :: rest) pos) (tAnd tt tu) (dAnd bt bu) := ⟨pw_and h1.pe h2.pe, runB_and h1.run h2.run⟩
theorem w_or (h1 : DTe X T W a tt bt) (h2 : DW X T W (.BoolOp .Or (b :: rest) pos) tu bu) : DW X T W (.BoolOp .Or (a :: b :: rest) pos) (tOr tt tu) (dOr bt bu) := ⟨pw_or h1.pe h2.pe, runB_or h1.run h2.run⟩
theorem t_bool (h : DW X T W e tt bt) : DTe X T W e tt bt := ⟨h.pe.pt, h.run⟩
theorem t_not (h : DTe X T W a tt bt) : DTe X T W (.UnaryOp .Not a pos) (tNot tt) (dNot bt) := ⟨pt_not h.pe, runB_not h.run⟩
theorem ts_nil : DTs X T W [] tYes dYes := ⟨pts_nil, runB_yes⟩
theorem ts_one (h : DTe X T W c tt bt) : DTs X T W [c] tt bt := ⟨pts_one h.pe, h.run⟩
/-! ### built-ins -/
theorem e_cb {id : String} {r : List V → Hp → VK → Prop} {f : List PyData → (G → Prop) → Prop} {x : Str} {p : Pos} (hc : CallR X (.builtin id) r) (ok : ArgOk X.K T r f) (hv : bootBuiltins x = some (.builtin id)) (hg : Gl X x) (hm : X.mg x = none) (h : DAs X T W (e :: es) tA dA) (hn : x ≠ "__name__" := by decide) (hdb : (x == ("__debug__" : Str)) = false := by decide)
    (he : starEach (e :: es) X.env = (false, eval e X.env) :: starEach es X.env := by rfl) (hpl : (backTo pos (starEach es X.env)).any (·.1) = false := by rfl) : DE X T W (.Call (.Name x p) (e :: es) [] pos) (tCB r tA) (dCB f dA) := ⟨pe_callB hc hg hm hv h.pe hn hdb he hpl, runE_cb ok h.run⟩
theorem e_ct {id : String} {r : List V → Hp → VK → Prop} {f : List PyData → (G → Prop) → Prop} {x : Str} {p : Pos} (hc : CallR X (.type id) r) (ok : ArgOk X.K T r f) (hv : bootBuiltins x = some (.type id)) (hg : Gl X x) (hm : X.mg x = none) (h : DAs X T W (e :: es) tA dA) (hn : x ≠ "__name__" := by decide) (hdb : (x == ("__debug__" : Str)) = false := by decide)
    (he : starEach (e :: es) X.env = (false, eval e X.env) :: starEach es X.env := by rfl) (hpl : (backTo pos (starEach es X.env)).any (·.1) = false := by rfl) : DE X T W (.Call (.Name x p) (e :: es) [] pos) (tCB r tA) (dCB f dA) := ⟨pe_callTy hc hg hm hv h.pe hn hdb he hpl, runE_cb ok h.run⟩
/-- isinstance(x, T) -/
theorem e_isi {n : String} {y : Str} {p p2 : Pos} (hk : kitAll n = true) (hb : bootBuiltins y = some (.type n)) (hg : Gl X "isinstance") (hm : X.mg "isinstance" = none) (hgy : Gl X y) (hmy : X.mg y = none) (h : DE X T W e te de) (hny : y ≠ "__name__" := by decide) (hdy : (y == ("__debug__" : Str)) = false := by decide)
    (he : starEach [e, .Name y p2] X.env = (false, eval e X.env) :: starEach [.Name y p2] X.env := by rfl) (he2 : starEach [.Name y p2] X.env = (false, eval (.Name y p2) X.env) :: starEach [] X.env := by rfl) (hpl : (backTo pos (starEach [.Name y p2] X.env)).any (·.1) = false := by rfl) :
    DE X T W (.Call (.Name "isinstance" p) [e, .Name y p2] [] pos) (tCB (rIsi X.K) (tCons te (tCons (tC (.ty n)) tNil))) (dIsi n de) :=
  ⟨pe_callB call_isi hg hm PyProof.Rows.boot_isinstance (pa_cons h.pe (pa_cons (pe_bltn hgy hmy hb rfl hny hdy) pa_nil he2) he) (by decide) (by decide) he hpl, runE_isi hk h.run⟩
/-! ### own lists -/
theorem e_lenV (i : Nat) {x : Str} {p p2 : Pos} (hg : Gl X "len") (hm : X.mg "len" = none) (hN : X.N[i]? = some x := by rfl) (hv : Vis X.env.scope x := by first | exact Or.inl rfl | exact Or.inr (Or.inl rfl) | exact Or.inr (Or.inr rfl)) (hd : (x == ("__debug__" : Str)) = false := by decide) (hcd : (x == ("__classdict__" : Str)) = false := by decide)
    (he : starEach [.Name x p2] X.env = (false, eval (.Name x p2) X.env) :: starEach [] X.env := by rfl) (hpl : (backTo pos (starEach [] X.env)).any (·.1) = false := by rfl) : DE X T W (.Call (.Name "len" p) [.Name x p2] [] pos) (tCB (fun xs H Q => ∃ x n, xs = [x] ∧ LenV X.K x H n ∧ Q (.int n) H) (tCons (tVar i) tNil)) (dLenV i) :=
  ⟨pe_callB call_len hg hm PySem.boot_len (pa_cons (pe_var hN hv hd hcd) pa_nil he) (by decide) (by decide) he hpl, runE_lenV⟩
theorem e_ixV (i : Nat) {x : Str} {p2 : Pos} (h : DE X T W b tb db) (hN : X.N[i]? = some x := by rfl) (hv : Vis X.env.scope x := by first | exact Or.inl rfl | exact Or.inr (Or.inl rfl) | exact Or.inr (Or.inr rfl)) (hd : (x == ("__debug__" : Str)) = false := by decide) (hcd : (x == ("__classdict__" : Str)) = false := by decide)
    (hs : PlainIx b := by intro _ _; rfl) : DE X T W (.Subscript (.Name x p2) b pos) (tOp (rIx X.K) (tVar i) tb) (dIxV i db) := ⟨pe_ix ix_seq (pe_var hN hv hd hcd) h.pe hs, runE_ixV h.run⟩
theorem e_slV (i : Nat) {x : Str} {lo hi : Option Expr} {tl th : TO} {dl dh : DO} {p2 p3 : Pos} (h1 : DOp X T W lo tl dl) (h2 : DOp X T W hi th dh) (hN : X.N[i]? = some x := by rfl) (hv : Vis X.env.scope x := by first | exact Or.inl rfl | exact Or.inr (Or.inl rfl) | exact Or.inr (Or.inr rfl)) (hd : (x == ("__debug__" : Str)) = false := by decide) (hcd : (x == ("__classdict__" : Str)) = false := by decide) :
    DE X T W (.Subscript (.Name x p2) (.Slice lo hi none p3) pos) (tSl (rSlX X.K) (tVar i) tl th) (dSlV i dl dh) := ⟨pe_slice sl_any (pe_var hN hv hd hcd) h1.pe h2.pe, runE_slV h1.run h2.run⟩
section
variable {x : Str} {p p2 : Pos} (i : Nat)
theorem e_app (h : DE X T W e te de) (hN : X.N[i]? = some x := by rfl) (hv : Vis X.env.scope x := by first | exact Or.inl rfl | exact Or.inr (Or.inl rfl) | exact Or.inr (Or.inr rfl)) (hd : (x == ("__debug__" : Str)) = false := by decide) (hcd : (x == ("__classdict__" : Str)) = false := by decide)
    (hbase : attributeBase (.Name x p2) "append" X.env (eval (.Name x p2) X.env) = eval (.Name x p2) X.env := by rfl)
    (hfew : ((backTo pos (starEach [e] X.env)).all (fun x => !x.1) && (backToKw pos (keywordEach [] X.env)).all (fun x => x.1.isSome) && decide ([e].length + ([] : List Keyword).length + (if ([] : List Keyword).isEmpty then 0 else 1) < 30)) = true := by rfl)
    (hline : (p.endLine == pos.line) = true := by rfl) (hs : starEach [e] X.env = (false, eval e X.env) :: starEach [] X.env := by rfl) (hplain : (backTo pos (starEach [] X.env)).any (·.1) = false := by rfl) :
    DE X T W (.Call (.Attribute (.Name x p2) "append" p) [e] [] pos) (tBM X.K "list" rAppend (tVar i) (tCons te tNil)) (dApp i de) :=
  ⟨pe_bm PySem.F.plainAttrs_list PySem.F.slot_list_append PySem.F.type_list_append mt_append (pe_var hN hv hd hcd) (pa_cons h.pe pa_nil hs) hbase hfew hline hs hplain, runE_app h.run⟩
theorem e_ext (h : DE X T W e te de) (hN : X.N[i]? = some x := by rfl) (hv : Vis X.env.scope x := by first | exact Or.inl rfl | exact Or.inr (Or.inl rfl) | exact Or.inr (Or.inr rfl)) (hd : (x == ("__debug__" : Str)) = false := by decide) (hcd : (x == ("__classdict__" : Str)) = false := by decide)
    (hbase : attributeBase (.Name x p2) "extend" X.env (eval (.Name x p2) X.env) = eval (.Name x p2) X.env := by rfl)
    (hfew : ((backTo pos (starEach [e] X.env)).all (fun x => !x.1) && (backToKw pos (keywordEach [] X.env)).all (fun x => x.1.isSome) && decide ([e].length + ([] : List Keyword).length + (if ([] : List Keyword).isEmpty then 0 else 1) < 30)) = true := by rfl)
    (hline : (p.endLine == pos.line) = true := by rfl) (hs : starEach [e] X.env = (false, eval e X.env) :: starEach [] X.env := by rfl) (hplain : (backTo pos (starEach [] X.env)).any (·.1) = false := by rfl) :
    DE X T W (.Call (.Attribute (.Name x p2) "extend" p) [e] [] pos) (tBM X.K "list" rExtend (tVar i) (tCons te tNil)) (dExt i de) :=
  ⟨pe_bm PySem.F.plainAttrs_list PySem.F.slot_list_extend PySem.F.type_list_extend mt_extend (pe_var hN hv hd hcd) (pa_cons h.pe pa_nil hs) hbase hfew hline hs hplain, runE_ext h.run⟩
theorem e_pop (hN : X.N[i]? = some x := by rfl) (hv : Vis X.env.scope x := by first | exact Or.inl rfl | exact Or.inr (Or.inl rfl) | exact Or.inr (Or.inr rfl)) (hd : (x == ("__debug__" : Str)) = false := by decide) (hcd : (x == ("__classdict__" : Str)) = false := by decide)
    (hbase : attributeBase (.Name x p2) "pop" X.env (eval (.Name x p2) X.env) = eval (.Name x p2) X.env := by rfl) (hline : (p.endLine == pos.line) = true := by rfl) :
    DE X T W (.Call (.Attribute (.Name x p2) "pop" p) [] [] pos) (tBM0 X.K "list" rPop (tVar i)) (dPop i) :=
  ⟨pe_bm0 PySem.F.plainAttrs_list PySem.F.slot_list_pop PySem.F.type_list_pop mt_pop (pe_var hN hv hd hcd) hbase hline, runE_pop⟩
theorem e_popAt (h : DE X T W e te de) (hN : X.N[i]? = some x := by rfl) (hv : Vis X.env.scope x := by first | exact Or.inl rfl | exact Or.inr (Or.inl rfl) | exact Or.inr (Or.inr rfl)) (hd : (x == ("__debug__" : Str)) = false := by decide) (hcd : (x == ("__classdict__" : Str)) = false := by decide)
    (hbase : attributeBase (.Name x p2) "pop" X.env (eval (.Name x p2) X.env) = eval (.Name x p2) X.env := by rfl)
    (hfew : ((backTo pos (starEach [e] X.env)).all (fun x => !x.1) && (backToKw pos (keywordEach [] X.env)).all (fun x => x.1.isSome) && decide ([e].length + ([] : List Keyword).length + (if ([] : List Keyword).isEmpty then 0 else 1) < 30)) = true := by rfl)
    (hline : (p.endLine == pos.line) = true := by rfl) (hs : starEach [e] X.env = (false, eval e X.env) :: starEach [] X.env := by rfl) (hplain : (backTo pos (starEach [] X.env)).any (·.1) = false := by rfl) :
    DE X T W (.Call (.Attribute (.Name x p2) "pop" p) [e] [] pos) (tBM X.K "list" rPopAt (tVar i) (tCons te tNil)) (dPopAt i de) :=
  ⟨pe_bm PySem.F.plainAttrs_list PySem.F.slot_list_pop PySem.F.type_list_pop mt_popAt (pe_var hN hv hd hcd) (pa_cons h.pe pa_nil hs) hbase hfew hline hs hplain, runE_popAt h.run⟩
end
/-! ### calls of defs -/
section
variable {k j : Nat} {f : Addr} {fd : FuncData} {ps : List Str} {x y : Str} {p p2 : Pos}
theorem e_call {ds : SpP} (F : FnOk X.prog X.w X.K X.mg X.base CX0 k f fd ps (liftP X.K T ds)) (hr : Room j X.A) (hj : k ≤ j) (hg : Gl X x) (hm : X.mg x = some (.ref f)) (hk : PySem.W.keepIn X.K (.ref f) = true) (hb : Binds X.K fd ps []) (h : DAs X T W (e :: es) tA dA)
    (hdb : (x == ("__debug__" : Str)) = false := by decide) (he : starEach (e :: es) X.env = (false, eval e X.env) :: starEach es X.env := by rfl) (hpl : (backTo pos (starEach es X.env)).any (·.1) = false := by rfl) :
    DE X T W (.Call (.Name x p) (e :: es) [] pos) (tCall (liftP X.K T ds) [] E0 tA) (dCall ds dA) := ⟨pe_call F (hr.mono hj) hg hm hk hb .nil pass0 h.pe hdb he hpl, runE_call h.run⟩
theorem e_call0 {ds : SpP} (F : FnOk X.prog X.w X.K X.mg X.base CX0 k f fd ps (liftP X.K T ds)) (hr : Room j X.A) (hj : k ≤ j) (hg : Gl X x) (hm : X.mg x = some (.ref f)) (hk : PySem.W.keepIn X.K (.ref f) = true) (hb : Binds X.K fd ps [])
    (hdb : (x == ("__debug__" : Str)) = false := by decide) : DE X T W (.Call (.Name x p) [] [] pos) (tCall (liftP X.K T ds) [] E0 tNil) (dCall ds dNil) := ⟨pe_call0 F (hr.mono hj) hg hm hk hb .nil pass0 hdb, runE_call runA_nil⟩
theorem e_callX {ds : SpP} (F : FnOk X.prog X.w X.K X.mg X.base (L2.CX X.prog X.w) k f fd ps (liftP X.K T ds)) (tk : Takes X W) (hr : Room j X.A) (hj : k ≤ j) (hg : Gl X x) (hm : X.mg x = some (.ref f)) (hk : PySem.W.keepIn X.K (.ref f) = true) (hb : Binds X.K fd ps []) (h : DAs X T W (e :: es) tA dA)
    (hdb : (x == ("__debug__" : Str)) = false := by decide) (he : starEach (e :: es) X.env = (false, eval e X.env) :: starEach es X.env := by rfl) (hpl : (backTo pos (starEach es X.env)).any (·.1) = false := by rfl) :
    DE X T W (.Call (.Name x p) (e :: es) [] pos) (tCallS (liftP X.K T ds) (WE W) tA) (dCallX ds dA) := ⟨pe_callS F (hr.mono hj) hg hm hk hb (fun σ => passAt tk σ) h.pe hdb he hpl, runE_callX h.run⟩
theorem e_callH {ds : SpH} (i : Nat) (F : FnOk X.prog X.w X.K X.mg X.base CX0 k f fd ps (liftH X.K T ds)) (hr : Room j X.A) (hj : k ≤ j) (hg : Gl X x) (hm : X.mg x = some (.ref f)) (hk : PySem.W.keepIn X.K (.ref f) = true) (hb : Binds X.K fd ps []) (h : DAs X T W es tA dA)
    (hN : X.N[i]? = some y := by rfl) (hv : Vis X.env.scope y := by first | exact Or.inl rfl | exact Or.inr (Or.inl rfl) | exact Or.inr (Or.inr rfl)) (hd : (y == ("__debug__" : Str)) = false := by decide) (hcd : (y == ("__classdict__" : Str)) = false := by decide)
    (hdb : (x == ("__debug__" : Str)) = false := by decide) (he : starEach (.Name y p2 :: es) X.env = (false, eval (.Name y p2) X.env) :: starEach es X.env := by rfl) (hpl : (backTo pos (starEach es X.env)).any (·.1) = false := by rfl) :
    DE X T W (.Call (.Name x p) (.Name y p2 :: es) [] pos) (tCall (liftH X.K T ds) [] E0 (tCons (tVar i) tA)) (dCallH ds i dA) := ⟨pe_call F (hr.mono hj) hg hm hk hb .nil pass0 (pa_cons (pe_var hN hv hd hcd) h.pe he) hdb he hpl, runE_callH h.run⟩
end
/-! ### what is walked -/
theorem i_seq {tg : Expr} (h : DE X T W e te de) : DI X T W tg e (iSeq X.K te) (dSeqI de) := ⟨pi_seq h.pe, runI_seq h.run⟩
theorem i_enum {elts : List Expr} {kk : Nat} {tpos p : Pos} (hg : Gl X "enumerate") (hm : X.mg "enumerate" = none) (h : DAs X T W [e] tA dA) (hs : starEach [e] X.env = [(false, eval e X.env)] := by rfl) : DI X T W (.Tuple elts kk tpos) (.Call (.Name "enumerate" p) [e] [] pos) (iEnumX X.K tA) (dEnum dA) := ⟨pi_enumX hg hm h.pe hs, runI_enum h.run⟩
theorem i_rng1 {tg : Expr} {p : Pos} (hg : Gl X "range") (hm : X.mg "range" = none) (h : DAs X T W [e] tA dA) (hs : starEach [e] X.env = [(false, eval e X.env)] := by rfl) : DI X T W tg (.Call (.Name "range" p) [e] [] pos) (iRng1 tA) (dRng1 dA) := ⟨pi_range1 hg hm h.pe hs, runI_rng1 h.run⟩
theorem i_rng2 {tg : Expr} {p : Pos} (hg : Gl X "range") (hm : X.mg "range" = none) (h : DAs X T W [a, b] tA dA) (hs : starEach [a, b] X.env = [(false, eval a X.env), (false, eval b X.env)] := by rfl) (hs2 : starEach [b] X.env = [(false, eval b X.env)] := by rfl) : DI X T W tg (.Call (.Name "range" p) [a, b] [] pos) (iRng2 tA) (dRng2 dA) := ⟨pi_range2 hg hm h.pe hs hs2, runI_rng2 h.run⟩
/-! ### targets -/
theorem g_name (i : Nat) {x : Str} (hN : X.N.Nodup) (hi : X.N[i]? = some x := by rfl) (hx : Loc X.env.scope x := by first | exact Or.inl rfl | exact Or.inr rfl) (hf : X.fn x = true ∨ X.env.scope.names.lookup x = some .local := by first | exact .inl rfl | exact .inr rfl) : DGt X T (.Name x pos) (gName i) (dgName i) := ⟨pg_name hN hi hx hf, runG_name, tgm_name⟩
theorem gs_nil : DGts X T [] gNil dgNil := ⟨pgs_nil, runG_nil, tgm_nil⟩
theorem gs_cons {g : TG} {gs : TGs} {t : PyData → Gs → (Gs → Prop) → Prop} {u : List PyData → Gs → (Gs → Prop) → Prop} (h1 : DGt X T e g t) (h2 : DGts X T es gs u) (hs : (assignEach (e :: es) X.env).map (·.2) = assign e X.env :: (assignEach es X.env).map (·.2) := by rfl) : DGts X T (e :: es) (gCons g gs) (dgCons t u) := ⟨pgs_cons h1.pe h2.pe hs, runG_cons h1.run h2.run, tgm_cons h1.mo h2.mo⟩
theorem g_tup {gs : TGs} {u : List PyData → Gs → (Gs → Prop) → Prop} {k n : Nat} (hc : X.calm = true) (h : DGts X T es gs u) (hn : (assignEach es X.env).length = n := by rfl) (hst : (assignEach es X.env).findIdx? (·.1) = none := by rfl) : DGt X T (.Tuple es k pos) (gTup X.K n gs) (dgTup n u) := ⟨pg_tup hc h.pe hn hst, runG_tup h.run, tgm_tup h.mo⟩
/-! ### comprehensions -/
theorem e_lc {elt tg iter : Expr} {ifs : List Expr} {scope : Scope} {own : List (Str × Nat)} {wi : TI} {di : DIt} {g : TG} {dg : PyData → Gs → (Gs → Prop) → Prop} (hc : X.calm = true) (hN : X.N.Nodup) (hi : DI X T W tg iter wi di) (ok : BlkOk X.N X.env.scope scope own) (hin : TgIn (own.map (·.2)) g)
    (hg : ∀ (s : Shared) (H : Hp) (C : Addr) (cl : List (Str × Addr)) (fp : List Addr), DGt (X.blk s H scope (compEnvC scope cl C X.env) fp) T tg g dg) (ht : ∀ (s : Shared) (H : Hp) (C : Addr) (cl : List (Str × Addr)) (fp : List Addr), DTs (X.blk s H scope (compEnvC scope cl C X.env) fp) T WF ifs tt bt)
    (he : ∀ (s : Shared) (H : Hp) (C : Addr) (cl : List (Str × Addr)) (fp : List Addr), DE (X.blk s H scope (compEnvC scope cl C X.env) fp) T WF elt te de) (hs : ∀ x, foldedSetIterable iter X.env x = pure x := by intro _; rfl) :
    DE X T W (.ListComp elt [⟨tg, iter, ifs, 0⟩] scope pos) (tLc wi g tt te (own.map (·.2))) (dLc di dg bt de (own.map (·.2))) :=
  have g0 := hg X.s_0 X.H_0 0 [] []
  ⟨pe_lc hc hN hi.pe ok (fun s H C cl fp => (hg s H C cl fp).pe) (fun s H C cl fp => (ht s H C cl fp).pe) (fun s H C cl fp => (he s H C cl fp).pe) hs, runE_lc hi.run g0.run hin g0.mo (ht X.s_0 X.H_0 0 [] []).run (he X.s_0 X.H_0 0 [] []).run⟩
/-! ### statements -/
variable {st : Stmt} {sts : List Stmt} {ts us : TS} {d u : DS}
theorem ss_nil : DSs X T W [] tNext dNext := ⟨pss_nil, runS_next⟩
theorem ss_cons (h1 : DSt X T W st ts d) (h2 : DSs X T W sts us u) : DSs X T W (st :: sts) (tSeq ts us) (dSeq d u) := ⟨pss_cons h1.pe h2.pe, runS_seq h1.run h2.run⟩
theorem ss_one (h1 : DSt X T W st ts d) : DSs X T W [st] ts d := ⟨pss_one h1.pe, h1.run⟩
theorem s_pass : DSt X T W (.Pass pos) tNext dNext := ⟨ps_pass, runS_next⟩
theorem s_never : DSt X T W st tNever dNever := ⟨ps_never, runS_never⟩
theorem ss_never : DSs X T W sts tNever dNever := ⟨pss_never, runS_never⟩
theorem s_set (i : Nat) {x : Str} {pos' : Pos} (hN : X.N.Nodup) (h : DE X T W e te de) (hi : X.N[i]? = some x := by rfl) (hx : Loc X.env.scope x := by first | exact Or.inl rfl | exact Or.inr rfl) (hs : swapsWith e (some (.Name x pos')) pos.line X.env = pure false := by rfl) (hf : X.fn x = true ∨ X.env.scope.names.lookup x = some .local := by first | exact .inl rfl | exact .inr rfl) :
    DSt X T W (.Assign [.Name x pos'] e pos) (tAsg te (gName i)) (dAsg i de) := ⟨ps_set hN hi hx h.pe hs hf, runS_asg h.run⟩
theorem s_asgT {tg : Expr} {g : TG} {t : PyData → Gs → (Gs → Prop) → Prop} (hg : DGt X T tg g t) (h : DE X T W e te de) (hs : swapsWithSole [tg] e pos.line X.env = pure false := by rfl) (hw : swappedStores [tg] e X.env = pure none := by rfl)
    (h1 : (assignEach [tg] X.env).map (·.2) = [assign tg X.env] := by rfl) : DSt X T W (.Assign [tg] e pos) (tAsg te g) (dAsgT t de) := ⟨ps_asg h.pe hg.pe hs hw h1, runS_asgT hg.run h.run⟩
theorem s_par (i j : Nat) {x y : Str} {px py pt pt2 : Pos} {kt k2 : Nat} (hc : X.calm = true) (hN : X.N.Nodup) (h : DAs X T W [a, b] tA dA) (hij : i ≠ j := by decide) (hi : X.N[i]? = some x := by rfl) (hj : X.N[j]? = some y := by rfl) (hx : X.env.scope.names.lookup x = some .local := by rfl) (hy : X.env.scope.names.lookup y = some .local := by rfl)
    (hw : swappedStores [.Tuple [.Name x px, .Name y py] kt pt] (.Tuple [a, b] k2 pt2) X.env = pure (some [x, y]) := by rfl) (hs : swapsWithSole [.Tuple [.Name x px, .Name y py] kt pt] (.Tuple [a, b] k2 pt2) pos.line X.env = pure false := by rfl) :
    DSt X T W (.Assign [.Tuple [.Name x px, .Name y py] kt pt] (.Tuple [a, b] k2 pt2) pos) (tPar i j tA) (dPar i j dA) := ⟨ps_par hc hN hi hj hij hx hy h.pe hw hs, runS_par hij h.run⟩
theorem s_augA (i : Nat) {x : Str} {pos' : Pos} (hN : X.N.Nodup) (h : DE X T W e te de) (hi : X.N[i]? = some x := by rfl) (hx : Loc X.env.scope x := by first | exact Or.inl rfl | exact Or.inr rfl) (hf : X.fn x = true ∨ X.env.scope.names.lookup x = some .local := by first | exact .inl rfl | exact .inr rfl) :
    DSt X T W (.AugAssign (.Name x pos') .Add e pos) (tAug i te (rI0 fun i j => .int (i + j))) (dAug i (fI0 fun i j => .int (i + j)) de) :=
  ⟨ps_aug hN hi hx h.pe (fun pins s σ H x y v u Q I r1 r2 h => iop_add pins s σ H x y v u Q I r1 r2 h) hf, runS_aug (ok_I0 fun _ _ _ _ => .int _) h.run⟩
theorem s_if (hc : DTe X T W c tt bt) (h1 : DSs X T W sts ts d) {sts2 : List Stmt} (h2 : DSs X T W sts2 us u) : DSt X T W (.If c sts sts2 pos) (tIfS tt ts us) (dIfS bt d u) := ⟨ps_if hc.pe h1.pe h2.pe, runS_if hc.run h1.run h2.run⟩
theorem s_ret (h : DE X T W e te de) : DSt X T W (.Return (some e) pos) (tRet te) (dRet de) := ⟨ps_ret h.pe, runS_ret h.run⟩
theorem s_retN : DSt X T W (.Return none pos) tRetN dRetN := ⟨ps_retN, runS_retN⟩
theorem s_expr (h : DE X T W e te de) (hs : swapsWith e none pos.line X.env = pure false := by rfl) : DSt X T W (.Expr e pos) (tDrop te) (dDrop de) := ⟨ps_expr h.pe hs, runS_drop h.run⟩
theorem s_while (hp : PassesOwn (model X.prog X.w) X.A X.env X.xe) (hc : DTe X T W c tt bt) (h : DSs X T W sts ts d) : DSt X T W (.While c sts [] pos) (tWhile tt ts) (dWhile bt d) := ⟨ps_while hp hc.pe h.pe, runS_while hc.run h.run⟩
theorem s_for {tg iter : Expr} {wi : TI} {di : DIt} {g : TG} {dg : PyData → Gs → (Gs → Prop) → Prop} (hp : PassesOwn (model X.prog X.w) X.A X.env X.xe) (hc : X.calm = true) (hi : DI X T W tg iter wi di) (hg : DGt X T tg g dg) (h : DSs X T W sts ts d) (hs : ∀ x, foldedSetIterable iter X.env x = pure x := by intro _; rfl) :
    DSt X T W (.For tg iter sts [] pos) (tFor wi g ts) (dFor di dg d) := ⟨ps_for hp hc hi.pe hg.pe h.pe hs, runS_for hi.run hg.run h.run⟩
theorem s_setIx (i : Nat) {x : Str} {p p2 : Pos} (hk : DE X T W b tb db) (h : DE X T W e te de) (hN : X.N[i]? = some x := by rfl) (hv : Vis X.env.scope x := by first | exact Or.inl rfl | exact Or.inr (Or.inl rfl) | exact Or.inr (Or.inr rfl)) (hd : (x == ("__debug__" : Str)) = false := by decide) (hcd : (x == ("__classdict__" : Str)) = false := by decide)
    (ha : ∀ v, assign (.Subscript (.Name x p) b p2) X.env v = (do
      let ov ← holding [v] (eval (.Name x p) X.env)
      let iv ← holding [v, ov] (eval b X.env)
      standAt p2
      holding [v, ov, iv] (setItem ov iv v)
      release [v, ov, iv] []) := by intro _; rfl)
    (hs : swapsWithSole [.Subscript (.Name x p) b p2] e pos.line X.env = pure false := by rfl) (hw : swappedStores [.Subscript (.Name x p) b p2] e X.env = pure none := by rfl) (h1 : (assignEach [.Subscript (.Name x p) b p2] X.env).map (·.2) = [assign (.Subscript (.Name x p) b p2) X.env] := by rfl) :
    DSt X T W (.Assign [.Subscript (.Name x p) b p2] e pos) (tAsg te (gSub (tVar i) tb rSetL)) (dSetIx i db de) := ⟨ps_asg h.pe (pg_sub (pe_var hN hv hd hcd) hk.pe set_list ha) hs hw h1, runS_setIx hk.run h.run⟩
/-- y = [..] -/
theorem s_setLc (i : Nat) {y : Str} {py spos : Pos} {elt tg iter : Expr} {ifs : List Expr} {scope : Scope} {own : List (Str × Nat)} {wi : TI} {di : DIt} {g : TG} {dg : PyData → Gs → (Gs → Prop) → Prop} (hc : X.calm = true) (hN : X.N.Nodup) (hi : DI X T W tg iter wi di) (ok : BlkOk X.N X.env.scope scope own) (hin : TgIn (own.map (·.2)) g)
    (hg : ∀ (s : Shared) (H : Hp) (C : Addr) (cl : List (Str × Addr)) (fp : List Addr), DGt (X.blk s H scope (compEnvC scope cl C X.env) fp) T tg g dg) (ht : ∀ (s : Shared) (H : Hp) (C : Addr) (cl : List (Str × Addr)) (fp : List Addr), DTs (X.blk s H scope (compEnvC scope cl C X.env) fp) T WF ifs tt bt)
    (he : ∀ (s : Shared) (H : Hp) (C : Addr) (cl : List (Str × Addr)) (fp : List Addr), DE (X.blk s H scope (compEnvC scope cl C X.env) fp) T WF elt te de) (hsw : swapsWith (.ListComp elt [⟨tg, iter, ifs, 0⟩] scope pos) (some (.Name y py)) spos.line X.env = pure true)
    (hy : X.N[i]? = some y := by rfl) (hyl : X.env.scope.names.lookup y = some .local := by rfl) (hs : ∀ x, foldedSetIterable iter X.env x = pure x := by intro _; rfl) :
    DSt X T W (.Assign [.Name y py] (.ListComp elt [⟨tg, iter, ifs, 0⟩] scope pos) spos) (tAsg (tLc wi g tt te (own.map (·.2))) (gName i)) (dAsg i (dLc di dg bt de (own.map (·.2)))) :=
  have g0 := hg X.s_0 X.H_0 0 [] []
  ⟨ps_setLc hc hN hy hyl hsw hi.pe ok (fun s H C cl fp => (hg s H C cl fp).pe) (fun s H C cl fp => (ht s H C cl fp).pe) (fun s H C cl fp => (he s H C cl fp).pe) hs, runS_asg (runE_lc hi.run g0.run hin g0.mo (ht X.s_0 X.H_0 0 [] []).run (he X.s_0 X.H_0 0 [] []).run)⟩
end
end DL

/-! tables of the module, dict displays, join, raise, a lambda handed on. -/
namespace DL
open PySem PySem.Spec PyProof.Rows L2 LamX
/-! ### tables -/
structure KTab (K : PySem.W.Frag) (w : World) (a : Addr) (tab : List (Str × PyData)) : Prop where
  dict : ∃ es n, KDict K w a es n
  get : ∀ z, match tab.lookup z with
    | some d => ∃ u v, PySem.W.nsIn K a z = some (some u) ∧ RelV v u ∧ ∀ O H, At K O H v d
    | none => PySem.W.nsIn K a z = some none
def fInT (tab : List (Str × PyData)) : PyData → (G → Prop) → Prop := fun d Q => ∃ z, d = .str z ∧ Q (.val (.bool (tab.lookup z).isSome))
def fIxT (tab : List (Str × PyData)) : PyData → (G → Prop) → Prop := fun d Q => ∃ z e, d = .str z ∧ tab.lookup z = some e ∧ Q (.val e)
def rInT (K : PySem.W.Frag) (a : Addr) : R2 := fun x y H Q => ∃ (z : Str) (r : Option Value), x = .str z ∧ y = .ref a ∧ PySem.W.nsIn K a z = some r ∧ Q (.bl r.isSome) H
section
variable {X : Cx} {T : List (Addr × Str)} {W : WX} {e e1 e2 : Expr} {te t1 t2 : TE} {de d1 d2 : DT} {pos : Pos}
theorem At.is_str {K : PySem.W.Frag} {O : AS} {H : Hp} {v : V} {z : Str} (h : At K O H v (.str z)) : v = .str z := by cases h; rfl
theorem ok_inT {a : Addr} {tab : List (Str × PyData)} (D : KTab X.K X.w a tab) : UnOk X.K T (fun x H Q => rInT X.K a x (.ref a) H Q) (fInT tab) := by
  intro Z O Γ ws H x d Q q S ax h hq
  obtain ⟨z, rfl, h⟩ := h
  obtain rfl := ax.is_str
  have g := D.get z
  cases e : tab.lookup z with
  | none => rw [e] at g h; exact ⟨z, none, rfl, rfl, g, hq _ _ _ h ⟨O, S.val (.bl _)⟩⟩
  | some d => rw [e] at g h; obtain ⟨u, v, g, _⟩ := g; exact ⟨z, some u, rfl, rfl, g, hq _ _ _ h ⟨O, S.val (.bl _)⟩⟩
theorem ok_ixT {a : Addr} {tab : List (Str × PyData)} (D : KTab X.K X.w a tab) : UnOk X.K T (fun y H Q => rIxD X.K X.w (.ref a) y H Q) (fIxT tab) := by
  intro Z O Γ ws H x d Q q S ax h hq
  obtain ⟨z, d, rfl, e, h⟩ := h
  obtain rfl := ax.is_str
  have g := D.get z
  rw [e] at g
  obtain ⟨u, v, g, r, ha⟩ := g
  obtain ⟨es, n, kd⟩ := D.dict
  exact ⟨a, z, v, rfl, rfl, ⟨es, n, u, kd.at_, kd.lit, g, r⟩, hq _ _ _ h ⟨O, S.val (ha O H)⟩⟩
/-- x in TABLE -/
theorem e_inT {a : Addr} {tab : List (Str × PyData)} {y : Str} {p : Pos} (D : KTab X.K X.w a tab) (hg : Gl X y) (hm : X.mg y = some (.ref a)) (h : DE X T W e te de) (hd : (y == ("__debug__" : Str)) = false := by decide) (hmk : behindInMarks .In (.Name y p) = false := by first | exact nomark _ | rfl) :
    DE X T W (.Compare e [.In] [.Name y p] pos) (tOp (rInT X.K a) te (tC (.ref a))) (dUn (fInT tab) de) := by
  obtain ⟨es, n, kd⟩ := id D.dict
  exact ⟨pe_cmpR (op_in_kd kd) h.pe (pe_glob (v := .ref a) hg hm rfl hd) hmk, runE_un (r := fun x H Q => rInT X.K a x (.ref a) H Q) (ok_inT D) h.run⟩
/-- TABLE[x] -/
theorem e_ixT {a : Addr} {tab : List (Str × PyData)} {y : Str} {p : Pos} (D : KTab X.K X.w a tab) (hg : Gl X y) (hm : X.mg y = some (.ref a)) (h : DE X T W e te de) (hd : (y == ("__debug__" : Str)) = false := by decide) (hs : PlainIx e := by intro _ _; rfl) :
    DE X T W (.Subscript (.Name y p) e pos) (tOp (rIxD X.K X.w) (tC (.ref a)) te) (dUn (fIxT tab) de) :=
  ⟨pe_ix ix_kdict (pe_glob (v := .ref a) hg hm rfl hd) h.pe hs, runE_un (r := fun y H Q => rIxD X.K X.w (.ref a) y H Q) (ok_ixT D) h.run⟩
/-! ### join -/
def fJn (a : Str) : PyData → (G → Prop) → Prop := fun d Q => ∃ ys : List Str, (d = .list (ys.map PyData.str) ∨ d = .tuple (ys.map PyData.str)) ∧ (ys.map (·.length)).sum + ys.length * a.length ≤ 16777216 ∧ Q (.val (.str (Txt.join a ys)))
def dJoin (da db : DT) : DT := fun Γ Q R => da Γ (fun g1 Γ1 => wd g1 fun d1 => ∃ a, d1 = .str a ∧ db Γ1 (fun g2 Γ2 => wd g2 fun d2 => fJn a d2 fun g => Q g Γ2) R) R
def rJoin (K : PySem.W.Frag) : V → List V → Hp → VK → Prop := fun x xs H Q => ∃ a p, ∃ ys : List Str, x = .str a ∧ xs = [.ref p] ∧ (SqL K H p (ys.map V.str) ∨ SqT K H p (ys.map V.str)) ∧
      (ys.map (·.length)).sum + ys.length * a.length ≤ 16777216 ∧ Q (.str (Txt.join a ys)) H
theorem runE_join {K : PySem.W.Frag} (h1 : RunE K T W t1 d1) (h2 : RunE K T W t2 d2) : RunE K T W (tM1 (rJoin K) t1 t2) (dJoin d1 d2) := by
  intro Z σ ts gs Γ H Q R q hl hS h hq hx
  refine h1 Z σ ts gs Γ H _ R _ hl hS h (fun g1 Γ1 v1 H1 k1 l1 S1 => ?_) hx
  obtain ⟨O1, d, S2, a1, a, rfl, k2⟩ := S1.arg1 (by have := len_of hS hl; simp; omega) k1
  obtain rfl := a1.is_str
  refine ⟨⟨a, rfl⟩, h2 Z σ ts gs Γ1 H1 _ R _ l1 ⟨O1, S2⟩ k2 (fun g2 Γ2 v2 H2 k3 l2 S3 => ?_) hx⟩
  obtain ⟨O2, d2, S4, a2, ys, hd, hb, k4⟩ := S3.arg1 (by have := len_of hS hl; simp; omega) k3
  have fin := hq _ _ (.str (Txt.join a ys)) H2 k4 l2 ⟨O2, S4.val (.str _)⟩
  rcases hd with rfl | rfl
  · obtain ⟨p, xs, rfl, hp, hs⟩ := a2.ref_lst
    obtain rfl := hs.strs
    exact ⟨a, p, ys, rfl, rfl, .inl (SqL.of hp), hb, fin⟩
  · obtain ⟨p, xs, rfl, hp, hs⟩ := a2.ref_tup
    obtain rfl := hs.strs
    exact ⟨a, p, ys, rfl, rfl, .inr hp, hb, fin⟩
theorem e_join {apos : Pos} (h1 : DE X T W e1 t1 d1) (h2 : DE X T W e2 t2 d2) (hs : starEach [e2] X.env = [(false, eval e2 X.env)] := by rfl) (hbase : attributeBase e1 "join" X.env (eval e1 X.env) = eval e1 X.env := by rfl) (hline : (apos.endLine == pos.line) = true := by rfl) :
    DE X T W (.Call (.Attribute e1 "join" apos) [e2] [] pos) (tM1 (rJoin X.K) t1 t2) (dJoin d1 d2) := ⟨pe_join h1.pe h2.pe hs hbase hline, runE_join h1.run h2.run⟩
/-! ### a dict display of constants, asked at once -/
def kvI (kvs : List (Str × Int)) : List (Key × V) := kvs.map fun q => (.inr q.1, .int q.2)
def trI (kvs : List (Str × Int)) : List (TE × TE) := kvs.map fun q => (tC (.str q.1), tC (.int q.2))
def dcI (kvs : List (Str × Int)) : PyData := .dict (kvs.map fun q => (.str q.1, .int q.2))
theorem tPairs_I (σ : L2.St) (H : Hp) (Q : List (V × V) → Hp → Prop) : ∀ (kvs : List (Str × Int)), Q ((kvI kvs).map fun kv => (kV kv.1, kv.2)) H → tPairs (trI kvs) σ H Q
  | [], h => h
  | q :: r, h => tPairs_I σ H (fun ps H3 => Q ((.str q.1, .int q.2) :: ps) H3) r h
theorem atKv_I {K : PySem.W.Frag} {O : AS} {H : Hp} : ∀ kvs : List (Str × Int), AtKv K O H (kvI kvs) (kvs.map fun q => (.str q.1, .int q.2))
  | [] => .nil
  | q :: r => .cons (k := .inr q.1) (.int _) (atKv_I r)
def dDisp (kvs : List (Str × Int)) : DT := fun Γ Q _ => mergeK [] (kvI kvs) = kvI kvs ∧ kvs.length ≤ 15 ∧ Q (.val (dcI kvs)) Γ
theorem runE_disp {K : PySem.W.Frag} {kvs : List (Str × Int)} : RunE K T W (tDisp (trI kvs)) (dDisp kvs) := by
  intro Z σ ts gs Γ H Q R q hl hS h hq hx p hp
  obtain ⟨hm, h15, h⟩ := h
  refine tPairs_I σ _ _ kvs ⟨upd_same, kvI kvs, rfl, by simpa [kvI] using h15, ?_⟩
  have e : upd (upd H p (.dK [])) p (.dK (mergeK [] (kvI kvs))) = upd H p (.dK (kvI kvs)) := by
    rw [hm]
    funext b
    by_cases hb : b = p
    · rw [hb, upd_same, upd_same]
    · rw [upd_ne hb, upd_ne hb, upd_ne hb]
  rw [e]
  obtain ⟨O, S⟩ := hS
  exact hq _ _ _ _ h hl ⟨O, (S.new1 hp).val (.dic (S.notO hp) upd_same (atKv_I kvs))⟩
theorem e_disp {keys : List (Option Expr)} {values : List Expr} (kvs : List (Str × Int)) (h : PPs X pos keys values (trI kvs)) (hall : keys.all (·.isSome) = true := by rfl) (hl : keys.length = values.length := by rfl) (h0 : keys ≠ [] := by exact fun z => nomatch z) (h15 : keys.length ≤ 15 := by decide) :
    DE X T W (.Dict keys values pos) (tDisp (trI kvs)) (dDisp kvs) := ⟨pe_disp h hall hl h0 h15, runE_disp⟩
/-- what a dict of data holds -/
def lookD (d : List (PyData × PyData)) (z : Str) : Option PyData := (d.find? fun q => match q.1 with | .str y => decide (y = z) | _ => false).map (·.2)
theorem atKv_get {K : PySem.W.Frag} {O : AS} {H : Hp} {z : Str} {kvs : List (Key × V)} {ds : List (PyData × PyData)} {d : PyData} (h : AtKv K O H kvs ds) (e : lookD ds z = some d) : ∃ v, valV kvs (.inr z) = some v ∧ At K O H v d := by
  induction kvs generalizing ds with
  | nil => cases h; simp [lookD] at e
  | cons q r ih =>
    cases h with
    | @cons k v _ d0 ds hv hr =>
      cases k with
      | inl i =>
        have e' : lookD ds z = some d := by simpa [lookD, kD] using e
        obtain ⟨v', h1, h2⟩ := ih hr e'
        exact ⟨v', by rw [valV_neg (by simp)]; exact h1, h2⟩
      | inr y =>
        by_cases hy : y = z
        · subst hy
          simp [lookD, kD] at e
          subst e
          exact ⟨v, valV_pos rfl, hv⟩
        · have e' : lookD ds z = some d := by simpa [lookD, kD, hy] using e
          obtain ⟨v', h1, h2⟩ := ih hr e'
          exact ⟨v', by rw [valV_neg (by simpa using hy)]; exact h1, h2⟩
def fDGet : PyData → PyData → (G → Prop) → Prop
  | .dict ds, .str z, Q => ∃ d, lookD ds z = some d ∧ Q (.val d)
  | _, _, _ => False
def rDGet : R2 := fun x y H Q => ∃ a v, x = .ref a ∧ DGet H a y (some v) ∧ Q v H
theorem ok_dget {K : PySem.W.Frag} : BinOk K T rDGet fDGet := by
  intro Z O Γ ws H x y d e Q q S ax ay h hq
  cases d with
  | dict ds =>
    cases e with
    | str z =>
      obtain ⟨d, e, h⟩ := h
      obtain rfl := ay.is_str
      cases ax with
      | dic n hp hs =>
        obtain ⟨v, hv, hd⟩ := atKv_get hs e
        have g := DGet.k (k := .inr z) hp
        rw [hv] at g
        exact ⟨_, v, rfl, g, hq _ _ _ h ⟨O, S.val hd⟩⟩
    | _ => exact h.elim
  | _ => exact h.elim
/-- d[x], d a dict of data, x a text -/
theorem e_dget (hu : X.A.units + 1 < cLine) (h1 : DE X T W e1 t1 d1) (h2 : DE X T W e2 t2 d2) (hs : NoSl e2 := by intro _ _; rfl) : DE X T W (.Subscript e1 e2 pos) (tDGet t1 t2) (dOp fDGet d1 d2) := ⟨pe_dget hu h1.pe h2.pe hs, runE_op (r := rDGet) ok_dget h1.run h2.run⟩
end
end DL

/-! raise X(); a lambda handed to a def that tries it. -/
namespace DL
open PySem PySem.Spec PyProof.Rows L2 LamX
section
variable {X : Cx} {T : List (Addr × Str)} {W : WX}
/-- X() for an own exception class without own __init__ -/
theorem pmk_own0 {C : Addr} {bmB : List Value} {B newId initId : String} {x : Str} {p pos : Pos} (F : ExcBaseFacts B newId initId bmB) (q : PySem.W.excIn X.K C bmB newId = true) (gC : X.mg x = some (.ref C)) (kC : PySem.W.keepIn X.K (.ref C) = true) (r : Raises X (.ref C)) (hg : Gl X x)
    (hdb : (x == ("__debug__" : Str)) = false := by decide) : PMk X (.Call (.Name x p) [] [] pos) (fun _ H Q => Q (.ref C) none H) := by
  intro pins s σ H Q I h
  refine wpAny_Call_Name_kw (ld_glob I hg gC ?_ hdb)
  refine PySem.W.callWith_K0 I.kIn kC ?_
  obtain ⟨bm, N, nm, qn, bs, hdct, sn, sub, ab, col, dd, k0, k1, k2, k3, k5, mN, hC, hN, hni, T⟩ := exc_obj I.kIn q
  refine wpAny_call_exc_subT F T hC hN hni (fun h' e hm => ?_) (by show 0 ≤ sizeLine; rw [sizeLine_eq]; omega)
  exact mk_of I hm r h (I.hok.gone hm.new)
/-- what an own exception class must be -/
structure ExcOwn (K : PySem.W.Frag) (mg : Str → Option Value) (x : Str) (C : Addr) : Prop where
  q : PySem.W.excIn K C [.type "ValueError", .type "Exception", .type "BaseException", .type "object"] "ValueError.__new__" = true
  g : mg x = some (.ref C)
  k : PySem.W.keepIn K (.ref C) = true
  r1 : PySem.W.subIn K (.ref C) (.type "BaseException") = some true
  r2 : PySem.W.typeIn K (.ref C) = some (.type "type")
def dRaise (C : Addr) : DS := fun D Γ => D.xc C Γ
theorem s_raise0 {C : Addr} {x : Str} {p pos pos' : Pos} (F : ExcOwn X.K X.mg x C) (hc : X.calm = true) (tk : Takes X W) (hg : Gl X x) (hdb : (x == ("__debug__" : Str)) = false := by decide) :
    DSt X T W (.Raise (some (.Call (.Name x p) [] [] pos)) none pos') (fun _ σ H => W (.ref C) none σ H) (dRaise C) :=
  ⟨ps_raise hc tk (pmk_own0 PySem.F.excBase_ValueError F.q F.g F.k (raises_own F.r1 F.r2) hg hdb), fun Z σ ts gs Γ H D E hl S h e => e.xc C Γ σ H h hl rfl S⟩
/-! ### a lambda handed on -/
def blind : G → G
  | .own _ _ => .unk
  | g => g
def shZ (Z : Zc) (n : Nat) : Zc := { Z with pa := fun i => Z.pa (i - n) }
theorem Sat.dup {K : PySem.W.Frag} {Z : Zc} {Γ gs : Gs} {σ ts : L2.St} {H : Hp} (S : Sat K T Z (Γ ++ gs) (σ ++ ts) H) (hl : Γ.length = σ.length) : Sat K T (shZ Z σ.length) (Γ.map blind ++ (Γ ++ gs)) (σ ++ (σ ++ ts)) H := by
  obtain ⟨O, S⟩ := S
  have lb : (Γ.map blind).length = σ.length := by simpa using hl
  have low : ∀ {i : Nat} {p : Bool} {l : List PyData}, (Γ.map blind ++ (Γ ++ gs))[i]? = some (.own p l) → σ.length ≤ i ∧ (Γ ++ gs)[i - σ.length]? = some (.own p l) := fun {i p l} e => by
    by_cases hi : i < (Γ.map blind).length
    · rw [List.getElem?_append_left hi, List.getElem?_map] at e
      cases q : Γ[i]? with
      | none => rw [q] at e; cases e
      | some g => rw [q] at e; cases g <;> simp [blind] at e
    · rw [List.getElem?_append_right (by omega), lb] at e
      exact ⟨by omega, e⟩
  refine ⟨O, by have := S.len; simp at this ⊢; omega, fun i g w e1 e2 => ?_, fun i j p q l m a e1 e2 e3 e4 => ?_, S.ext, S.zo, S.new, S.mo, S.lst, S.keep, S.tabs⟩
  · by_cases hi : i < σ.length
    · rw [List.getElem?_append_left (by omega), List.getElem?_map] at e1
      rw [List.getElem?_append_left hi] at e2
      cases q : Γ[i]? with
      | none => rw [q] at e1; cases e1
      | some g0 =>
        rw [q] at e1
        cases e1
        have := S.ok i g0 w (by rw [List.getElem?_append_left (by omega)]; exact q) (by rw [List.getElem?_append_left hi]; exact e2)
        cases g0 with
        | own p l => trivial
        | _ => exact this
    · rw [List.getElem?_append_right (by omega), lb] at e1
      rw [List.getElem?_append_right (by omega)] at e2
      have := S.ok _ g w e1 e2
      cases g with
      | own p l => exact this
      | _ => exact this
  · obtain ⟨h1, e1⟩ := low e1
    obtain ⟨h2, e2⟩ := low e2
    rw [List.getElem?_append_right h1] at e3
    rw [List.getElem?_append_right h2] at e4
    have := S.sep _ _ p q l m a e1 e2 e3 e4
    omega
theorem Sat.undup {K : PySem.W.Frag} {Z : Zc} {Γ Γ' : Gs} {σ ts : L2.St} {H : Hp} (S : Sat K T (shZ Z σ.length) (Γ' ++ Γ) (σ ++ ts) H) (hl : Γ'.length = σ.length) : Sat K T Z Γ ts H := by
  obtain ⟨O, S⟩ := S
  have src : ∀ {i : Nat} {g : G}, Γ[i]? = some g → (Γ' ++ Γ)[i + σ.length]? = some g := fun {i g} e => by
    rw [List.getElem?_append_right (by omega), hl, Nat.add_sub_cancel]; exact e
  have src2 : ∀ {i : Nat} {g : Option V}, ts[i]? = some g → (σ ++ ts)[i + σ.length]? = some g := fun {i g} e => by
    rw [List.getElem?_append_right (by omega), Nat.add_sub_cancel]; exact e
  refine ⟨O, by have := S.len; simp at this; omega, fun i g w e1 e2 => ?_, fun i j p q l m a e1 e2 e3 e4 => ?_, S.ext, S.zo, S.new, S.mo, S.lst, S.keep, S.tabs⟩
  · have := S.ok _ g w (src e1) (src2 e2)
    cases g with
    | own p l =>
      obtain ⟨a, xs, h1, h2, h3, h4, h5⟩ := this
      refine ⟨a, xs, h1, h2, h3, h4, ?_⟩
      cases p with
      | true => exact ⟨by have := h5.1; show a = Z.pa i; rw [this]; show Z.pa _ = _; rw [Nat.add_sub_cancel], h5.2⟩
      | false => exact h5
    | _ => exact this
  · have := S.sep _ _ p q l m a (src e1) (src e2) (src2 e3) (src2 e4)
    omega
theorem Sat.ext {K : PySem.W.Frag} {Z : Zc} {Γ : Gs} {σ : L2.St} {H H' : Hp} (S : Sat K T Z Γ σ H) (e : ExtN H H') (t : Tabs T H') : Sat K T Z Γ σ H' := by
  obtain ⟨O, S⟩ := S
  have k : ∀ a o, ¬ O a → H a = some o → NT o → H' a = some o := fun a o _ h n => e a o h n
  refine ⟨O, S.len, fun i g w e1 e2 => (S.ok i g w e1 e2).step k (fun _ _ h _ => h) fun a xs o h _ => ⟨o, e _ _ h nt_lst⟩, S.sep, S.ext, S.zo, S.new, S.mo, fun a h => ?_, fun a o m b n => e _ _ (S.keep a o m b n) n, t⟩
  · obtain ⟨xs, h⟩ := S.lst a h
    exact ⟨xs, e _ _ h nt_lst⟩
end
end DL

/-! a lambda without parameters handed to a def that tries it and tells a word. -/
namespace DL
open PySem PySem.Spec PyProof.Rows L2 LamX
/-- told: what a() raises is of the class D; then the word w1, else w3 -/
def TWord (D : Addr) (w1 w3 : Str) : (XK → Hp → VK → Prop) → Hp → VK → Prop := fun tl H Q =>
  tl (fun cls d H' => cls = .ref D ∧ d = none ∧ Q (.str w1) H') H fun _ H' => Q (.str w3) H'
theorem pss_when {X : Cx} {b : List Stmt} {t : TS} {p : Prop} (h : p → PSs X b t) : PSs X b (fun D σ H => p ∧ t D σ H) := ⟨fun pins s σ H D I q => (h q.1).run pins s σ H D I q.2⟩
theorem pss_len {X : Cx} {b : List Stmt} {t : TS} (h : PSs X b t) : PSs X b (fun D σ H => σ.length = X.N.length → t D σ H) := ⟨fun pins s σ H D I q => h.run pins s σ H D I (q I.len)⟩
/-- try: a() / except e as n: return 'w1' if isinstance(n, c1) and isinstance(n, c2) else 'w2' / return 'w3' -/
theorem word_gives {X : Cx} {Ng : List Str} {x a e n c1 c2 q w1 w2 w3 : Str} {sg : Scope} {g CS D C1 : Addr} {cdg : Value} {j1 j2 j3 : Nat} {p1 p2 p3 p4 p5 p6 p7 p8 p9 p10 p11 p12 p13 p14 p15 p16 p17 p18 p19 p20 p21 : Pos} {t2 : String}
    (hN : Ng.Nodup) (hi : Ng[1]? = some n) (hln : sg.names.lookup n = some .local) (hge : sg.names.lookup e = some .globalImplicit) (hme : X.mg e = some (.ref CS)) (hde : (e == ("__debug__" : Str)) = false)
    (hgi : sg.names.lookup ("isinstance" : Str) = some .globalImplicit) (hmi : X.mg "isinstance" = none) (hg1 : sg.names.lookup c1 = some .globalImplicit) (hm1 : X.mg c1 = some (.ref C1)) (hd1 : (c1 == ("__debug__" : Str)) = false)
    (hg2 : sg.names.lookup c2 = some .globalImplicit) (hm2 : X.mg c2 = none) (hb2 : bootBuiltins c2 = some (.type t2)) (hn2 : c2 ≠ "__name__") (hd2 : (c2 == ("__debug__" : Str)) = false) (hdn : (n == ("__debug__" : Str)) = false) (hcn : (n == ("__classdict__" : Str)) = false)
    (hex : PySem.W.exmOne X.K (.ref D) (.ref CS) = some true) (EC : ExcC X.K D) (k1 : PySem.W.kitOne X.K (.ref D) (.ref C1) = some true) (k2 : PySem.W.kitOne X.K (.ref D) (.type t2) = some true) (h0 : ∀ f : Addr, (L2.start Ng [V.ref f])[0]? = some (some (V.ref f))) :
    GivesTo X Ng x sg g cdg [.Try [.Expr (.Call (.Name a p1) [] [] p2) p3] [.ExceptHandler (some (.Name e p4)) (some n) [.Return (some (.IfExp (.BoolOp .And [.Call (.Name "isinstance" p5) [.Name n p6, .Name c1 p7] [] p8, .Call (.Name "isinstance" p9) [.Name n p10, .Name c2 p11] [] p12] p13) (.Constant (.str w1) j1 p14) (.Constant (.str w2) j2 p15) p16)) p17] p18] [] [] p19, .Return (some (.Constant (.str w3) j3 p20)) p21]
      a q (TWord D w1 w3) := by
  intro f c' s H Q tl act hc h
  have hgl : Gl (cxOf C8.CX0 X.prog X.w X.K X.mg X.base Ng x sg g cdg X.A X.stack s H C8.E0).nox e := hge
  refine ⟨_, pss_cons (ps_try_as (X := (cxOf C8.CX0 X.prog X.w X.K X.mg X.base Ng x sg g cdg X.A X.stack s H C8.E0).nox) (c := .ref CS) (i := 1)
      (tb := fun W E σ H => ∃ Ech : XK, (∀ cls d σ' H', Ech cls d H' → W cls d σ' H') ∧ σ[0]? = some (some (.ref f)) ∧ H c' = some (CodeO c' q) ∧ tl Ech H fun _ H1 => E.nx σ H1)
      (ts := fun a cls d => fun E σ H => (cls = .ref D ∧ d = none) ∧ (σ.length = Ng.length → tRet (tIf (tAnd (tB (tCB (rIsE X.K D a) (tCons (tVar 1) (tCons (tC (.ref C1)) tNil)))) (tB (tCB (rIsE X.K D a) (tCons (tVar 1) (tCons (tC (.ty t2)) tNil))))) (tC (.str w1)) (tC (.str w2))) E σ H))
      rfl rfl hN hi hln ⟨hgl, hde, .inl hme⟩ L2.takes0 (fun W pn xe tk _ => ?_) (fun a oe cls d pn hz hf => pss_when fun hp => ?_)) (pss_one (ps_ret pe_str)), ?_⟩
  · refine ⟨fun pins s' σ H' D I h' => ?_⟩
    obtain ⟨Ech, hW, h1, h2, h3⟩ := h'
    have hp := act W pn xe Ech p1 p2 tk hW
    have hq := pss_one (ps_expr (pos := p3) hp (by rfl))
    exact hq.run pins s' σ H' D I ⟨h1, h2, h3⟩
  · obtain ⟨rfl, rfl⟩ := hp
    have hv : Vis sg n := Or.inl hln
    refine pss_len (pss_one (ps_ret (pe_ifExp (PW.pt (pw_and (pt_val (pe_callB (call_isE EC hz hf) hgi hmi PyProof.Rows.boot_isinstance (pa_cons (pe_var hi hv hdn hcn) (pa_cons (pe_glob (v := .ref C1) hg1 hm1 rfl hd1) pa_nil)) (by decide) (by decide)))
      (pw_and1 (pt_val (pe_callB (call_isE EC hz hf) hgi hmi PyProof.Rows.boot_isinstance (pa_cons (pe_var hi hv hdn hcn) (pa_cons (pe_bltn (v := .ty t2) hg2 hm2 hb2 rfl hn2 hd2) pa_nil)) (by decide) (by decide)))))) pe_str pe_str)))
  · refine ⟨fun cls d H' => cls = .ref D ∧ d = none ∧ Q (.str w1) H', fun cls d σ' H' ⟨e1, e2, e3⟩ => ⟨true, by rw [e1]; exact hex, fun _ a _ => ⟨⟨e1, e2⟩, fun hl => ?_⟩, fun z => nomatch z⟩, h0 f, hc, h⟩
    have hi2 : (σ'.set 1 (some (V.ref a)))[1]? = some (some (V.ref a)) := by
      rw [List.getElem?_set_self]
      have h3 : 1 < Ng.length := (List.getElem?_eq_some_iff.mp hi).1
      rw [← hl] at h3
      simpa using h3
    exact ⟨_, hi2, .ref C1, .ref C1, true, rfl, fun u r => r, k1, true, rfl, _, hi2, .ty t2, .type t2, true, rfl, fun u r => r, k2, true, rfl, e3⟩
/-! ### the call -/
def dLam (D : Addr) (w1 w3 : Str) (da : DT) : DT := fun Γ Q _ => da (Γ.map blind) (fun _ _ => Q (.val (.str w3)) Γ) fun c _ => c = D ∧ Q (.val (.str w1)) Γ
theorem runE_lam {K : PySem.W.Frag} {T : List (Addr × Str)} {W : WX} {D : Addr} {w1 w3 : Str} {t : XK → TE} {da : DT} (h : ∀ E : XK, RunE K T (fun cls d _ H' => E cls d H') (t E) da) : RunE K T W (tLam T (TWord D w1 w3) t) (dLam D w1 w3 da) := by
  intro Z σ ts gs Γ H Q R q hl hS hd hq hx
  refine ⟨by obtain ⟨O, S⟩ := hS; exact S.tabs, fun H1 e t1 => ?_⟩
  have S1 := (hS.ext e t1).dup hl
  have fin : ∀ {Γ' : Gs} {σ' : L2.St} {H' : Hp} {w : Str}, Sat K T (shZ Z σ.length) (Γ' ++ (Γ ++ gs)) (σ' ++ (σ ++ ts)) H' → Γ'.length = σ'.length → σ'.length = σ.length → Q (.val (.str w)) Γ → q (.str w) H' := fun {Γ' σ' H' w} S a b k => by
    rw [← b] at S
    obtain ⟨O, S2⟩ := S.undup a
    exact hq _ Γ _ H' k hl ⟨O, S2.val (.str _)⟩
  have ll : (Γ.map blind).length = σ.length := by simpa using hl
  refine h (fun cls d H' => cls = .ref D ∧ d = none ∧ q (.str w1) H') (shZ Z σ.length) σ (σ ++ ts) (Γ ++ gs) (Γ.map blind) H1 _ _ _ ll S1 hd (fun g Γ' v H' k l S => ?_) (fun c Γ' σ' H' k l1 l2 S => ?_)
  · refine fin (S.take ?_) l rfl k
    have := len_of hS hl
    simp; omega
  · obtain ⟨rfl, k⟩ := k
    exact ⟨rfl, rfl, fin S (by omega) l2 k⟩
/-- the def x that takes a lambda and tells a word of it -/
structure WordDef (X : Cx) (x : Str) (D : Addr) (w1 w3 : Str) : Prop where
  ex : ∃ (g : Addr) (a : Str) (pg : Arguments) (bg : List Stmt) (sg : Scope) (dV kV doc pm cdv ct oc : Value) (an od : Option Addr) (osl : Array (Option Value)) (Ng : List Str), X.mg x = some (.ref g) ∧ PySem.W.keepIn X.K (.ref g) = true ∧
    X.K.lookup g = some ⟨oc, od, .func (PySem.W.fnOf x x pg bg sg dV kV doc pm an cdv ct), osl⟩ ∧ PySem.W.codeIn X.K cdv x = true ∧ L2.Binds X.K (PySem.W.fnOf x x pg bg sg dV kV doc pm an cdv ct) [a] [] ∧ FnScope Ng [a] sg ∧ Ng[0]? = some a ∧ Vis sg a ∧
    (∀ q, GivesTo X Ng x sg g cdv bg a q (TWord D w1 w3)) ∧ (a == ("__debug__" : Str)) = false ∧ (a == ("__classdict__" : Str)) = false
theorem e_lam {X : Cx} {T : List (Addr × Str)} {W : WX} {x : Str} {D : Addr} {w1 w3 : Str} {c P : Addr} {k : Nat} {params : Arguments} {body : Expr} {scope : Scope} {t : XK → TE} {da : DT} {p lpos pos : Pos} (hw : WordDef X x D w1 w3) (hg : Gl X x)
    (TB : TabB X.base X.mg c P) (hcode : X.env.code = .ref c) (hmT : (P, X.env.qual ++ "<lambda>") ∈ T) (hu : ∀ p ∈ T, p.1 = P → p.2 = X.env.qual ++ "<lambda>") (hr : Room (k + 2) X.A)
    (hbody : ∀ (A : Around) (outer : List Env) (s : Shared) (H : Hp) (E : XK) (f c' : Addr), Room k (A.deeper (lamEnv X scope s.heap.objs.size f c')) → Takes (lamCx X A outer s H E scope f c') (fun cls d _ H' => E cls d H') → DE (lamCx X A outer s H E scope f c') T (fun cls d _ H' => E cls d H') body (t E) da)
    (L : LamS X.env.scope scope := by exact lamS_by rfl) (hdef : defaultsOf params X.env = ([], []) := by rfl) (hbind : ∀ (q : Str) (cl : List (Str × Addr)) (pm cv ctv : Value), bindArgs (PySem.W.kla_fn "<lambda>" q params body scope cl pm cv ctv) ⟨[], []⟩ = pure [] := by intros; rfl)
    (hdb : (x == ("__debug__" : Str)) = false := by decide) : DE X T W (.Call (.Name x p) [.Lambda params body scope lpos] [] pos) (tLam T (TWord D w1 w3) t) (dLam D w1 w3 da) := by
  obtain ⟨g, a, pg, bg, sg, dV, kV, doc, pm, cdv, ct, oc, an, od, osl, Ng, hm, hk, lk, hcg, hb, Sg, hNg, hva, hG, hd, hcd⟩ := hw.ex
  refine ⟨pe_lamcall hg hm hk lk hcg hb Sg hNg hva (hG _) TB hcode hmT hu hr L hdef hbind (fun A outer s H E f c' hr' => (hbody A outer s H E f c' hr' (takes_of rfl rfl rfl rfl)).pe) hdb hd hcd, runE_lam fun E => ?_⟩
  exact (hbody X.A [] X.s_0 X.H_0 E 0 0 ((hr.mono (by omega : k + 1 ≤ k + 2)).deeper _) (takes_of rfl rfl rfl rfl)).run
end DL

/-! defs by their names: where they stand, what they promise. -/
namespace DL
open PySem PySem.Spec PyProof.Rows L2 LamX
/-- a def as it stands behind the top -/
structure DefAt (K : PySem.W.Frag) (mg : Str → Option Value) (x : Str) (st : Stmt) (ps : List Str) : Prop where
  ex : ∃ f fd, Fun K x x st f fd ∧ mg x = some (.ref f) ∧ Binds K fd ps []
/-- a promise by name -/
structure Cal (P : Program) (w : World) (K : PySem.W.Frag) (mg : Str → Option Value) (base : Heap) (CX : CXT) (k : Nat) (x : Str) (sp : Sp) : Prop where
  ex : ∃ f fd ps, FnOk P w K mg base CX k f fd ps sp ∧ mg x = some (.ref f) ∧ PySem.W.keepIn K (.ref f) = true ∧ Binds K fd ps []
/-- the built-ins that the module does not name anew -/
def builtL : List Str := (["isinstance", "str", "tuple", "list", "int", "bool", "len", "max", "min", "sum", "repr", "enumerate"] : List Str) ++ (["range", "abs", "all", "any", "sorted", "dict", "ValueError", "type"] : List Str)
def Bi (mg : Str → Option Value) (l : List Str) : Prop := ∀ x ∈ l, mg x = none
theorem fun_ofD {K : PySem.W.Frag} {x qual : Str} {st : Stmt} {f : Addr} {fd : FuncData} (F : FunD K x qual (defArgs st) (defBody st) (defScope st) [] [] f fd) : Fun K x qual st f fd := by
  obtain ⟨oc, od, dV, kV, doc, pm, an, cdv, ct, osl, rfl, lk, hcd, hD, hK⟩ := F.ex
  rcases hD with ⟨_, rfl⟩ | ⟨e, _⟩
  · exact ⟨⟨oc, od, kV, doc, pm, an, cdv, ct, osl, rfl, lk, hcd⟩, F.kp⟩
  · exact absurd rfl e
theorem defAt_of {K : PySem.W.Frag} {mg : Str → Option Value} {h : Heap} {x : Str} {st : Stmt} {ps : List Str} {fa : List He.Fa} {fn : List He.DefD} {d : He.DefD} (c : He.SaysD fa fn K) (X : K.In h) (G : h.Ns mainGlobals mg) (hd : d ∈ fn) (hg : He.Fa.glo x ∈ fa)
    (e : d = ⟨(x, none), x, x, defArgs st, defBody st, defScope st, [], []⟩)
    (hb : ∀ (kV doc pm : Value) (an : Option Addr) (cdv ct : Value) (us : List Value), us.length = ps.length → bindArgs (PySem.W.fnOf x x (defArgs st) (defBody st) (defScope st) .none kV doc pm an cdv ct) ⟨us, []⟩ = pure (ps.zip us)) : DefAt K mg x st ps := by
  obtain ⟨fd, F⟩ := c.defs hd
  subst e
  have F' := fun_ofD (x := x) (qual := x) (st := st) F
  exact ⟨_, fd, F', He.glo_ok X G (c.facts hg), F'.binds hb⟩
section
variable {P : Program} {w : World} {K : PySem.W.Frag} {mg : Str → Option Value} {base : Heap} {T : List (Addr × Str)} {x : Str} {st : Stmt} {N ps : List Str} {k : Nat}
theorem DefAt.mkP (D : DefAt K mg x st ps) (S : FnScope N ps (defScope st)) (ds : SpP) (hlen : ∀ as Q R, ds as Q R → as.length = ps.length)
    (hbody : ∀ (f : Addr) (cdv : Value) (A : Around) (outer : List Env) (s : Shared) (H : Hp) (E : XK), Room k (A.deeper (envOfC x (defScope st) s.heap.objs.size f cdv)) → ∀ as Q0 R0, ds as Q0 R0 →
      ∃ tS dS, DSs (cxOf CX0 P w K mg base N x (defScope st) f cdv A outer s H E).nox T WF (defBody st) tS dS ∧ dS { nx := fun _ => Q0 (.val .none), rt := fun g _ => g ≠ .unk ∧ Q0 g } (startG N.length as)) :
    Cal P w K mg base CX0 (k + 1) x (liftP K T ds) := by
  obtain ⟨f, fd, F, hm, hb⟩ := D.ex
  exact ⟨f, fd, ps, dfnP F S ds hlen (hbody f), hm, F.kp, hb⟩
theorem DefAt.mkX (D : DefAt K mg x st ps) (S : FnScope N ps (defScope st)) (ds : SpP) (hlen : ∀ as Q R, ds as Q R → as.length = ps.length)
    (hbody : ∀ (f : Addr) (cdv : Value) (A : Around) (outer : List Env) (s : Shared) (H : Hp) (E : XK), Room k (A.deeper (envOfC x (defScope st) s.heap.objs.size f cdv)) → Takes (cxOf (L2.CX P w) P w K mg base N x (defScope st) f cdv A outer s H E) (fun cls d _ H' => E cls d H') → ∀ as Q0 R0, ds as Q0 R0 →
      ∃ tS dS, DSs (cxOf (L2.CX P w) P w K mg base N x (defScope st) f cdv A outer s H E) T (fun cls d _ H' => E cls d H') (defBody st) tS dS ∧ dS { nx := fun _ => Q0 (.val .none), rt := fun g _ => g ≠ .unk ∧ Q0 g, xc := fun c _ => R0 c } (startG N.length as)) :
    Cal P w K mg base (L2.CX P w) (k + 1) x (liftP K T ds) := by
  obtain ⟨f, fd, F, hm, hb⟩ := D.ex
  exact ⟨f, fd, ps, dfnX F S ds hlen (hbody f), hm, F.kp, hb⟩
theorem DefAt.mkH (D : DefAt K mg x st ps) (S : FnScope N ps (defScope st)) (ds : SpH) (hlen : ∀ hd as Q R, ds hd as Q R → as.length + 1 = ps.length)
    (hbody : ∀ (f : Addr) (cdv : Value) (A : Around) (outer : List Env) (s : Shared) (H : Hp) (E : XK), Room k (A.deeper (envOfC x (defScope st) s.heap.objs.size f cdv)) → ∀ hd as Q0 R0, ds hd as Q0 R0 →
      ∃ tS dS, DSs (cxOf CX0 P w K mg base N x (defScope st) f cdv A outer s H E).nox T WF (defBody st) tS dS ∧ dS { nx := fun Γ => ownQ Γ 0 fun hd' => Γ[0]? = some (.own true hd') ∧ Q0 (.val .none) hd', rt := fun g Γ => g ≠ .unk ∧ ownQ Γ 0 fun hd' => Γ[0]? = some (.own true hd') ∧ Q0 g hd' } (.own true hd :: startG (N.length - 1) as)) :
    Cal P w K mg base CX0 (k + 1) x (liftH K T ds) := by
  obtain ⟨f, fd, F, hm, hb⟩ := D.ex
  exact ⟨f, fd, ps, dfnH F S ds hlen (hbody f), hm, F.kp, hb⟩
/-- nothing is asked: nothing is promised -/
theorem DefAt.none (D : DefAt K mg x st ps) {sp : Sp} {CX : CXT} (h : ∀ vs H Q E, ¬ sp vs H Q E) : Cal P w K mg base CX k x sp := by
  obtain ⟨f, fd, F, hm, hb⟩ := D.ex
  exact ⟨f, fd, ps, ⟨fun vs H Q E z => absurd z (h vs H Q E), fun A outer s H args us vs Q E _ _ _ _ z => absurd z (h vs H Q E)⟩, hm, F.kp, hb⟩
end
section
variable {X : Cx} {T : List (Addr × Str)} {W : WX} {e : Expr} {es : List Expr} {tA : TA} {dA : DA} {pos : Pos} {k j : Nat} {x y : Str} {p p2 : Pos}
theorem e_c {ds : SpP} (F : Cal X.prog X.w X.K X.mg X.base CX0 k x (liftP X.K T ds)) (hr : Room j X.A) (hg : Gl X x) (h : DAs X T W (e :: es) tA dA) (hj : k ≤ j := by omega)
    (hdb : (x == ("__debug__" : Str)) = false := by decide) (he : starEach (e :: es) X.env = (false, eval e X.env) :: starEach es X.env := by rfl) (hpl : (backTo pos (starEach es X.env)).any (·.1) = false := by rfl) :
    DE X T W (.Call (.Name x p) (e :: es) [] pos) (tCall (liftP X.K T ds) [] E0 tA) (dCall ds dA) := by
  obtain ⟨f, fd, ps, F, hm, hk, hb⟩ := F.ex
  exact e_call F hr hj hg hm hk hb h hdb he hpl
theorem e_c0 {ds : SpP} (F : Cal X.prog X.w X.K X.mg X.base CX0 k x (liftP X.K T ds)) (hr : Room j X.A) (hg : Gl X x) (hj : k ≤ j := by omega) (hdb : (x == ("__debug__" : Str)) = false := by decide) :
    DE X T W (.Call (.Name x p) [] [] pos) (tCall (liftP X.K T ds) [] E0 tNil) (dCall ds dNil) := by
  obtain ⟨f, fd, ps, F, hm, hk, hb⟩ := F.ex
  exact e_call0 F hr hj hg hm hk hb hdb
theorem e_cX {ds : SpP} (F : Cal X.prog X.w X.K X.mg X.base (L2.CX X.prog X.w) k x (liftP X.K T ds)) (tk : Takes X W) (hr : Room j X.A) (hg : Gl X x) (h : DAs X T W (e :: es) tA dA) (hj : k ≤ j := by omega)
    (hdb : (x == ("__debug__" : Str)) = false := by decide) (he : starEach (e :: es) X.env = (false, eval e X.env) :: starEach es X.env := by rfl) (hpl : (backTo pos (starEach es X.env)).any (·.1) = false := by rfl) :
    DE X T W (.Call (.Name x p) (e :: es) [] pos) (tCallS (liftP X.K T ds) (WE W) tA) (dCallX ds dA) := by
  obtain ⟨f, fd, ps, F, hm, hk, hb⟩ := F.ex
  exact e_callX F tk hr hj hg hm hk hb h hdb he hpl
theorem e_cH {ds : SpH} (i : Nat) (F : Cal X.prog X.w X.K X.mg X.base CX0 k x (liftH X.K T ds)) (hr : Room j X.A) (hg : Gl X x) (h : DAs X T W es tA dA) (hj : k ≤ j := by omega)
    (hN : X.N[i]? = some y := by rfl) (hv : Vis X.env.scope y := by first | exact Or.inl rfl | exact Or.inr (Or.inl rfl) | exact Or.inr (Or.inr rfl)) (hd : (y == ("__debug__" : Str)) = false := by decide) (hcd : (y == ("__classdict__" : Str)) = false := by decide)
    (hdb : (x == ("__debug__" : Str)) = false := by decide) (he : starEach (.Name y p2 :: es) X.env = (false, eval (.Name y p2) X.env) :: starEach es X.env := by rfl) (hpl : (backTo pos (starEach es X.env)).any (·.1) = false := by rfl) :
    DE X T W (.Call (.Name x p) (.Name y p2 :: es) [] pos) (tCall (liftH X.K T ds) [] E0 (tCons (tVar i) tA)) (dCallH ds i dA) := by
  obtain ⟨f, fd, ps, F, hm, hk, hb⟩ := F.ex
  exact e_callH i F hr hj hg hm hk hb h hN hv hd hcd hdb he hpl
end
end DL

/-! the same rules, the written part said by name (so that a block's reading does not name the block). -/
namespace DL
open PySem PySem.Spec PyProof.Rows L2 LamX
section
variable {X : Cx} {T : List (Addr × Str)} {W : WX} {a b c e : Expr} {es rest : List Expr} {ta tb tc te : TE} {da db dc de : DT} {tA : TA} {dA : DA} {pos : Pos} (K : PySem.W.Frag)
theorem k_add (hK : X.K = K := by rfl) : BinR X T .Add (rAddA K) fAdd := by subst hK; exact b_add
theorem k_mul (hK : X.K = K := by rfl) : BinR X T .Mult (rMulA K) fMul := by subst hK; exact b_mul
theorem k_eq (hu : X.A.units + 64 < cLine) (hK : X.K = K := by rfl) : CmpR X T .Eq (rEqA K) fEq := by subst hK; exact c_eq hu
theorem k_ne (hu : X.A.units + 64 < cLine) (hK : X.K = K := by rfl) : CmpR X T .NotEq (rNeA K) fNe := by subst hK; exact c_ne hu
theorem k_ix (h1 : DE X T W a ta da) (h2 : DE X T W b tb db) (hs : PlainIx b := by intro _ _; rfl) (hK : X.K = K := by rfl) : DE X T W (.Subscript a b pos) (tOp (rIx K) ta tb) (dOp fIx da db) := by subst hK; exact e_ix h1 h2 hs
theorem k_sl {lo hi : Option Expr} {tl th : TO} {dl dh : DO} {p2 : Pos} (h : DE X T W e te de) (h1 : DOp X T W lo tl dl) (h2 : DOp X T W hi th dh) (hK : X.K = K := by rfl) : DE X T W (.Subscript e (.Slice lo hi none p2) pos) (tSl (rSlX K) te tl th) (dSl de dl dh) := by subst hK; exact e_sl h h1 h2
theorem k_rev {k : Nat} {p1 p2 p3 : Pos} (h : DE X T W e te de) (hK : X.K = K := by rfl) : DE X T W (.Subscript e (.Slice none none (some (.UnaryOp .USub (.Constant (.int 1) k p1) p2)) p3) pos) (tRevL K te) (dRevL de) := by subst hK; exact e_rev h
/-- a built-in by what it reads -/
structure CbR (X : Cx) (T : List (Addr × Str)) (v : Value) (r : List V → Hp → VK → Prop) (f : List PyData → (G → Prop) → Prop) : Prop where
  c : CallR X v r
  ok : ArgOk X.K T r f
abbrev rLenQ (K : PySem.W.Frag) : List V → Hp → VK → Prop := fun xs H Q => ∃ x n, xs = [x] ∧ LenV K x H n ∧ Q (.int n) H
abbrev rTupQ (K : PySem.W.Frag) : List V → Hp → VK → Prop := fun xs H Q => ∃ p ys, xs = [.ref p] ∧ ((SqL K H p ys ∧ ∀ l, H l = none → Q (.ref l) (upd H l (.tup ys))) ∨ (SqT K H p ys ∧ Q (.ref p) H))
abbrev rLstQ (K : PySem.W.Frag) : List V → Hp → VK → Prop := fun xs H Q => ∃ p ys, xs = [.ref p] ∧ (SqL K H p ys ∨ SqT K H p ys) ∧ ∀ l, H l = none → Q (.ref l) (upd H l (.lst ys))
theorem q_len (hK : X.K = K := by rfl) : CbR X T (.builtin "len") (rLenQ K) fLen := by subst hK; exact ⟨call_len, ok_len⟩
theorem q_max (hc : X.calm = true := by rfl) (hK : X.K = K := by rfl) : CbR X T (.builtin "max") (rMax K) fMax := by subst hK; exact ⟨cr_max hc, ok_max⟩
theorem q_sum (hc : X.calm = true := by rfl) (hK : X.K = K := by rfl) : CbR X T (.builtin "sum") (rSum K) fSum := by subst hK; exact ⟨cr_sum hc, ok_sum⟩
theorem q_all (hc : X.calm = true := by rfl) (hK : X.K = K := by rfl) : CbR X T (.builtin "all") (rAll K) fAll := by subst hK; exact ⟨cr_all hc, ok_all⟩
theorem q_any (hc : X.calm = true := by rfl) (hK : X.K = K := by rfl) : CbR X T (.builtin "any") (rAny K) fAny := by subst hK; exact ⟨cr_any hc, ok_any⟩
theorem q_abs : CbR X T (.builtin "abs") (fun xs H Q => ∃ i, xs = [.int i] ∧ Q (.int (if i < 0 then -i else i)) H) fAbs := ⟨call_abs, ok_abs⟩
theorem q_repr : CbR X T (.builtin "repr") (fun xs H Q => ∃ i, xs = [.int i] ∧ i.natAbs.log2 < 1920 ∧ Q (.str (toString i)) H) fReprI := ⟨SkE.call_repr_int, ok_reprI⟩
theorem q_int : CbR X T (.type "int") (fun xs H Q => (∃ i, xs = [.int i] ∧ Q (.int i) H) ∨ ∃ k, xs = [.bl k] ∧ Q (.int (if k then 1 else 0)) H) fInt := ⟨call_int1, ok_int⟩
theorem q_tuple (hK : X.K = K := by rfl) : CbR X T (.type "tuple") (rTupQ K) fTuple := by subst hK; exact ⟨call_tuple_of, ok_tuple⟩
theorem q_list (hK : X.K = K := by rfl) : CbR X T (.type "list") (rLstQ K) fList := by subst hK; exact ⟨call_list_of, ok_list⟩
section
variable {id : String} {r : List V → Hp → VK → Prop} {f : List PyData → (G → Prop) → Prop} {x : Str} {p : Pos}
theorem k_cb (q : CbR X T (.builtin id) r f) (hv : bootBuiltins x = some (.builtin id)) (hm : X.mg x = none) (h : DAs X T W (e :: es) tA dA) (hg : Gl X x := by rfl) (hn : x ≠ "__name__" := by decide) (hdb : (x == ("__debug__" : Str)) = false := by decide)
    (he : starEach (e :: es) X.env = (false, eval e X.env) :: starEach es X.env := by rfl) (hpl : (backTo pos (starEach es X.env)).any (·.1) = false := by rfl) : DE X T W (.Call (.Name x p) (e :: es) [] pos) (tCB r tA) (dCB f dA) := e_cb q.c q.ok hv hg hm h hn hdb he hpl
theorem k_ct (q : CbR X T (.type id) r f) (hv : bootBuiltins x = some (.type id)) (hm : X.mg x = none) (h : DAs X T W (e :: es) tA dA) (hg : Gl X x := by rfl) (hn : x ≠ "__name__" := by decide) (hdb : (x == ("__debug__" : Str)) = false := by decide)
    (he : starEach (e :: es) X.env = (false, eval e X.env) :: starEach es X.env := by rfl) (hpl : (backTo pos (starEach es X.env)).any (·.1) = false := by rfl) : DE X T W (.Call (.Name x p) (e :: es) [] pos) (tCB r tA) (dCB f dA) := e_ct q.c q.ok hv hg hm h hn hdb he hpl
end
theorem k_isi {n : String} {y : Str} {p p2 : Pos} (hk : kitAll n = true) (hb : bootBuiltins y = some (.type n)) (hm : X.mg "isinstance" = none) (hmy : X.mg y = none) (h : DE X T W e te de) (hg : Gl X "isinstance" := by rfl) (hgy : Gl X y := by rfl) (hny : y ≠ "__name__" := by decide) (hdy : (y == ("__debug__" : Str)) = false := by decide)
    (he : starEach [e, .Name y p2] X.env = (false, eval e X.env) :: starEach [.Name y p2] X.env := by rfl) (he2 : starEach [.Name y p2] X.env = (false, eval (.Name y p2) X.env) :: starEach [] X.env := by rfl) (hpl : (backTo pos (starEach [.Name y p2] X.env)).any (·.1) = false := by rfl) (hK : X.K = K := by rfl) :
    DE X T W (.Call (.Name "isinstance" p) [e, .Name y p2] [] pos) (tCB (rIsi K) (tCons te (tCons (tC (.ty n)) tNil))) (dIsi n de) := by subst hK; exact e_isi hk hb hg hm hgy hmy h hny hdy he he2 hpl
section
variable {x : Str} {p p2 : Pos} (i : Nat)
theorem k_lenV (hm : X.mg "len" = none) (hg : Gl X "len" := by rfl) (hN : X.N[i]? = some x := by rfl) (hv : Vis X.env.scope x := by first | exact Or.inl rfl | exact Or.inr (Or.inl rfl) | exact Or.inr (Or.inr rfl)) (hd : (x == ("__debug__" : Str)) = false := by decide) (hcd : (x == ("__classdict__" : Str)) = false := by decide)
    (he : starEach [.Name x p2] X.env = (false, eval (.Name x p2) X.env) :: starEach [] X.env := by rfl) (hpl : (backTo pos (starEach [] X.env)).any (·.1) = false := by rfl) (hK : X.K = K := by rfl) : DE X T W (.Call (.Name "len" p) [.Name x p2] [] pos) (tCB (rLenQ K) (tCons (tVar i) tNil)) (dLenV i) := by subst hK; exact e_lenV i hg hm hN hv hd hcd he hpl
theorem k_ixV (h : DE X T W b tb db) (hN : X.N[i]? = some x := by rfl) (hv : Vis X.env.scope x := by first | exact Or.inl rfl | exact Or.inr (Or.inl rfl) | exact Or.inr (Or.inr rfl)) (hd : (x == ("__debug__" : Str)) = false := by decide) (hcd : (x == ("__classdict__" : Str)) = false := by decide)
    (hs : PlainIx b := by intro _ _; rfl) (hK : X.K = K := by rfl) : DE X T W (.Subscript (.Name x p2) b pos) (tOp (rIx K) (tVar i) tb) (dIxV i db) := by subst hK; exact e_ixV i h hN hv hd hcd hs
theorem k_slV {lo hi : Option Expr} {tl th : TO} {dl dh : DO} {p3 : Pos} (h1 : DOp X T W lo tl dl) (h2 : DOp X T W hi th dh) (hN : X.N[i]? = some x := by rfl) (hv : Vis X.env.scope x := by first | exact Or.inl rfl | exact Or.inr (Or.inl rfl) | exact Or.inr (Or.inr rfl)) (hd : (x == ("__debug__" : Str)) = false := by decide) (hcd : (x == ("__classdict__" : Str)) = false := by decide) (hK : X.K = K := by rfl) :
    DE X T W (.Subscript (.Name x p2) (.Slice lo hi none p3) pos) (tSl (rSlX K) (tVar i) tl th) (dSlV i dl dh) := by subst hK; exact e_slV i h1 h2 hN hv hd hcd
theorem k_app (h : DE X T W e te de) (hN : X.N[i]? = some x := by rfl) (hv : Vis X.env.scope x := by first | exact Or.inl rfl | exact Or.inr (Or.inl rfl) | exact Or.inr (Or.inr rfl)) (hd : (x == ("__debug__" : Str)) = false := by decide) (hcd : (x == ("__classdict__" : Str)) = false := by decide)
    (hbase : attributeBase (.Name x p2) "append" X.env (eval (.Name x p2) X.env) = eval (.Name x p2) X.env := by rfl)
    (hfew : ((backTo pos (starEach [e] X.env)).all (fun x => !x.1) && (backToKw pos (keywordEach [] X.env)).all (fun x => x.1.isSome) && decide ([e].length + ([] : List Keyword).length + (if ([] : List Keyword).isEmpty then 0 else 1) < 30)) = true := by rfl)
    (hline : (p.endLine == pos.line) = true := by rfl) (hs : starEach [e] X.env = (false, eval e X.env) :: starEach [] X.env := by rfl) (hplain : (backTo pos (starEach [] X.env)).any (·.1) = false := by rfl) (hK : X.K = K := by rfl) :
    DE X T W (.Call (.Attribute (.Name x p2) "append" p) [e] [] pos) (tBM K "list" rAppend (tVar i) (tCons te tNil)) (dApp i de) := by subst hK; exact e_app i h hN hv hd hcd hbase hfew hline hs hplain
theorem k_ext (h : DE X T W e te de) (hN : X.N[i]? = some x := by rfl) (hv : Vis X.env.scope x := by first | exact Or.inl rfl | exact Or.inr (Or.inl rfl) | exact Or.inr (Or.inr rfl)) (hd : (x == ("__debug__" : Str)) = false := by decide) (hcd : (x == ("__classdict__" : Str)) = false := by decide)
    (hbase : attributeBase (.Name x p2) "extend" X.env (eval (.Name x p2) X.env) = eval (.Name x p2) X.env := by rfl)
    (hfew : ((backTo pos (starEach [e] X.env)).all (fun x => !x.1) && (backToKw pos (keywordEach [] X.env)).all (fun x => x.1.isSome) && decide ([e].length + ([] : List Keyword).length + (if ([] : List Keyword).isEmpty then 0 else 1) < 30)) = true := by rfl)
    (hline : (p.endLine == pos.line) = true := by rfl) (hs : starEach [e] X.env = (false, eval e X.env) :: starEach [] X.env := by rfl) (hplain : (backTo pos (starEach [] X.env)).any (·.1) = false := by rfl) (hK : X.K = K := by rfl) :
    DE X T W (.Call (.Attribute (.Name x p2) "extend" p) [e] [] pos) (tBM K "list" rExtend (tVar i) (tCons te tNil)) (dExt i de) := by subst hK; exact e_ext i h hN hv hd hcd hbase hfew hline hs hplain
theorem k_pop (hN : X.N[i]? = some x := by rfl) (hv : Vis X.env.scope x := by first | exact Or.inl rfl | exact Or.inr (Or.inl rfl) | exact Or.inr (Or.inr rfl)) (hd : (x == ("__debug__" : Str)) = false := by decide) (hcd : (x == ("__classdict__" : Str)) = false := by decide)
    (hbase : attributeBase (.Name x p2) "pop" X.env (eval (.Name x p2) X.env) = eval (.Name x p2) X.env := by rfl) (hline : (p.endLine == pos.line) = true := by rfl) (hK : X.K = K := by rfl) :
    DE X T W (.Call (.Attribute (.Name x p2) "pop" p) [] [] pos) (tBM0 K "list" rPop (tVar i)) (dPop i) := by subst hK; exact e_pop i hN hv hd hcd hbase hline
end
section
variable {k j : Nat} {x y : Str} {p p2 : Pos}
theorem k_c {K : PySem.W.Frag} {ds : SpP} (F : Cal X.prog X.w X.K X.mg X.base CX0 k x (liftP K T ds)) (hr : Room j X.A) (h : DAs X T W (e :: es) tA dA) (hj : k ≤ j) (hg : Gl X x := by rfl)
    (hdb : (x == ("__debug__" : Str)) = false := by decide) (he : starEach (e :: es) X.env = (false, eval e X.env) :: starEach es X.env := by rfl) (hpl : (backTo pos (starEach es X.env)).any (·.1) = false := by rfl) (hK : X.K = K := by rfl) :
    DE X T W (.Call (.Name x p) (e :: es) [] pos) (tCall (liftP K T ds) [] E0 tA) (dCall ds dA) := by subst hK; exact e_c F hr hg h hj hdb he hpl
theorem k_c0 {K : PySem.W.Frag} {ds : SpP} (F : Cal X.prog X.w X.K X.mg X.base CX0 k x (liftP K T ds)) (hr : Room j X.A) (hj : k ≤ j) (hg : Gl X x := by rfl) (hdb : (x == ("__debug__" : Str)) = false := by decide) (hK : X.K = K := by rfl) :
    DE X T W (.Call (.Name x p) [] [] pos) (tCall (liftP K T ds) [] E0 tNil) (dCall ds dNil) := by subst hK; exact e_c0 F hr hg hj hdb
theorem k_cX {K : PySem.W.Frag} {ds : SpP} (F : Cal X.prog X.w X.K X.mg X.base (L2.CX X.prog X.w) k x (liftP K T ds)) (tk : Takes X W) (hr : Room j X.A) (h : DAs X T W (e :: es) tA dA) (hj : k ≤ j) (hg : Gl X x := by rfl)
    (hdb : (x == ("__debug__" : Str)) = false := by decide) (he : starEach (e :: es) X.env = (false, eval e X.env) :: starEach es X.env := by rfl) (hpl : (backTo pos (starEach es X.env)).any (·.1) = false := by rfl) (hK : X.K = K := by rfl) :
    DE X T W (.Call (.Name x p) (e :: es) [] pos) (tCallS (liftP K T ds) (WE W) tA) (dCallX ds dA) := by subst hK; exact e_cX F tk hr hg h hj hdb he hpl
theorem k_cH {K : PySem.W.Frag} {ds : SpH} (i : Nat) (F : Cal X.prog X.w X.K X.mg X.base CX0 k x (liftH K T ds)) (hr : Room j X.A) (h : DAs X T W es tA dA) (hj : k ≤ j) (hg : Gl X x := by rfl)
    (hN : X.N[i]? = some y := by rfl) (hv : Vis X.env.scope y := by first | exact Or.inl rfl | exact Or.inr (Or.inl rfl) | exact Or.inr (Or.inr rfl)) (hd : (y == ("__debug__" : Str)) = false := by decide) (hcd : (y == ("__classdict__" : Str)) = false := by decide)
    (hdb : (x == ("__debug__" : Str)) = false := by decide) (he : starEach (.Name y p2 :: es) X.env = (false, eval (.Name y p2) X.env) :: starEach es X.env := by rfl) (hpl : (backTo pos (starEach es X.env)).any (·.1) = false := by rfl) (hK : X.K = K := by rfl) :
    DE X T W (.Call (.Name x p) (.Name y p2 :: es) [] pos) (tCall (liftH K T ds) [] E0 (tCons (tVar i) tA)) (dCallH ds i dA) := by subst hK; exact e_cH i F hr hg h hj hN hv hd hcd hdb he hpl
end
theorem k_inT {ad : Addr} {tab : List (Str × PyData)} {y : Str} {p : Pos} (D : KTab K X.w ad tab) (hm : X.mg y = some (.ref ad)) (h : DE X T W e te de) (hg : Gl X y := by rfl) (hd : (y == ("__debug__" : Str)) = false := by decide) (hmk : behindInMarks .In (.Name y p) = false := by first | exact nomark _ | rfl) (hK : X.K = K := by rfl) :
    DE X T W (.Compare e [.In] [.Name y p] pos) (tOp (rInT K ad) te (tC (.ref ad))) (dUn (fInT tab) de) := by subst hK; exact e_inT D hg hm h hd hmk
theorem k_ixT {w : World} {ad : Addr} {tab : List (Str × PyData)} {y : Str} {p : Pos} (D : KTab K w ad tab) (hm : X.mg y = some (.ref ad)) (h : DE X T W e te de) (hg : Gl X y := by rfl) (hd : (y == ("__debug__" : Str)) = false := by decide) (hs : PlainIx e := by intro _ _; rfl) (hK : X.K = K := by rfl) (hw : X.w = w := by rfl) :
    DE X T W (.Subscript (.Name y p) e pos) (tOp (rIxD K w) (tC (.ref ad)) te) (dUn (fIxT tab) de) := by subst hK; subst hw; exact e_ixT D hg hm h hd hs
theorem k_join {e1 e2 : Expr} {t1 t2 : TE} {d1 d2 : DT} {apos : Pos} (h1 : DE X T W e1 t1 d1) (h2 : DE X T W e2 t2 d2) (hs : starEach [e2] X.env = [(false, eval e2 X.env)] := by rfl) (hbase : attributeBase e1 "join" X.env (eval e1 X.env) = eval e1 X.env := by rfl) (hline : (apos.endLine == pos.line) = true := by rfl) (hK : X.K = K := by rfl) :
    DE X T W (.Call (.Attribute e1 "join" apos) [e2] [] pos) (tM1 (rJoin K) t1 t2) (dJoin d1 d2) := by subst hK; exact e_join h1 h2 hs hbase hline
theorem k_seq {tg : Expr} (h : DE X T W e te de) (hK : X.K = K := by rfl) : DI X T W tg e (iSeq K te) (dSeqI de) := by subst hK; exact i_seq h
theorem k_enum {elts : List Expr} {kk : Nat} {tpos p : Pos} (hm : X.mg "enumerate" = none) (h : DAs X T W [e] tA dA) (hg : Gl X "enumerate" := by rfl) (hs : starEach [e] X.env = [(false, eval e X.env)] := by rfl) (hK : X.K = K := by rfl) : DI X T W (.Tuple elts kk tpos) (.Call (.Name "enumerate" p) [e] [] pos) (iEnumX K tA) (dEnum dA) := by subst hK; exact i_enum hg hm h hs
theorem k_tup {gs : TGs} {u : List PyData → Gs → (Gs → Prop) → Prop} {k n : Nat} (h : DGts X T es gs u) (hc : X.calm = true := by rfl) (hn : (assignEach es X.env).length = n := by rfl) (hst : (assignEach es X.env).findIdx? (·.1) = none := by rfl) (hK : X.K = K := by rfl) : DGt X T (.Tuple es k pos) (gTup K n gs) (dgTup n u) := by subst hK; exact g_tup hc h hn hst
end
end DL

/-! a def that makes lambdas: its code object is known. -/
namespace DL
open PySem PySem.Spec PyProof.Rows L2 LamX
section
variable {P : Program} {w : World} {K : PySem.W.Frag} {mg : Str → Option Value} {base : Heap} {T : List (Addr × Str)} {x : Str} {st : Stmt} {N ps : List Str} {k : Nat}
theorem DefAt.mkPc (D : DefAt K mg x st ps) (hga : mg x = some (.ref (He.ga K x))) (S : FnScope N ps (defScope st)) (ds : SpP) (hlen : ∀ as Q R, ds as Q R → as.length = ps.length)
    (hbody : ∀ (f : Addr) (A : Around) (outer : List Env) (s : Shared) (H : Hp) (E : XK), Room k (A.deeper (envOfC x (defScope st) s.heap.objs.size f (.ref (He.codeOf K (x, Option.none))))) → ∀ as Q0 R0, ds as Q0 R0 →
      ∃ tS dS, DSs (cxOf CX0 P w K mg base N x (defScope st) f (.ref (He.codeOf K (x, Option.none))) A outer s H E).nox T WF (defBody st) tS dS ∧ dS { nx := fun _ => Q0 (.val .none), rt := fun g _ => g ≠ .unk ∧ Q0 g } (startG N.length as)) :
    Cal P w K mg base CX0 (k + 1) x (liftP K T ds) := by
  obtain ⟨f, fd, F, hm, hb⟩ := D.ex
  refine ⟨f, fd, ps, ?_, hm, F.kp, hb⟩
  obtain ⟨oc, od, kV, doc, pm, an, cdv, ct, osl, rfl, lk, hcd⟩ := F.ex
  have ef : f = He.fAd K (x, Option.none) := by
    have e := hm.symm.trans hga
    cases e
    rfl
  obtain ⟨c, rfl⟩ := He.codeIn_ref hcd
  have ec : He.codeOf K (x, Option.none) = c := He.codeOf_eq (by rw [← ef]; exact lk) rfl
  rw [ec] at hbody
  refine fn_of lk hcd S (fun vs H Q E h => ?_) fun A outer s H vs Q E hr h => ?_
  · obtain ⟨O, as, Q0, R0, _, hs, _, hd, _⟩ := h
    exact hs.len.trans (hlen as Q0 R0 hd)
  · obtain ⟨O, as, Q0, R0, all, hs, ht, hd, hq, _⟩ := h
    obtain ⟨tS, dS, D, hw⟩ := hbody f A outer s H E hr as Q0 R0 hd
    refine ⟨tS, D.pe.nox, ?_⟩
    have el := hs.len
    have S0 : SatA K T (zP H O) O (startG N.length as) (start N vs) H := by
      have := sat_unk (N.length - as.length) (sat_vals hs (sat_nil (K := K) all ht))
      unfold startG L2.start
      rw [el]
      simpa using this
    refine D.run (zP H O) (start N vs) [] [] (startG N.length as) H _ _ S0.len (by simpa using ⟨O, S0⟩) hw ⟨fun Γ' σ' H' hn a b S' => ?_, fun g Γ' v σ' H' hr n a b S' => ?_, fun Γ' σ' H' z => z.elim, fun Γ' σ' H' z => z.elim, fun c Γ' σ' H' z => z.elim⟩
    · obtain ⟨O', S'⟩ := S'
      exact hq _ _ H' hn (frP S') .non
    · obtain ⟨O', S'⟩ := S'
      exact hq g v H' hr.2 (frP S') (res_of (Z := zP H O) S' (by simp; omega) n hr.1)
end
end DL

/-! what the readings say, as equations. -/
namespace DL
open PySem PySem.Spec PyProof.Rows L2 LamX
section
variable {Q : G → Prop} {i j : Int} {a b : Str} {l m : List PyData} {d e : PyData} {Γ : Gs} {R : GX}
theorem y_wdv {k : PyData → Prop} : wd (.val d) k = k d := rfl
theorem y_wdo {k : PyData → Prop} : wd (.own false l) k = k (.list l) := rfl
theorem y_wds0 {k : List PyData → Prop} : wds [] k = k [] := rfl
theorem y_wds1 {g : G} {gs : Gs} {k : List PyData → Prop} : wds (g :: gs) k = wd g fun d => wds gs fun ds => k (d :: ds) := rfl
theorem y_okv {k : G → Prop} : okG (.val d) k = k (.val d) := rfl
theorem y_oko {k : G → Prop} : okG (.own false l) k = k (.own false l) := rfl
theorem y_var {n : Nat} {q : GK} : dVar n Γ q R = (match Γ[n]? with
  | some (.val d) => q (.val d) Γ
  | some (.own false l) => q (.val (.list l)) (Γ.set n (.val (.list l)))
  | some (.raw v) => q (.raw v) Γ
  | some (.frz a xs) => q (.frz a xs) Γ
  | _ => False) := rfl
theorem y_addi : fAdd (.int i) (.int j) Q = Q (.val (.int (i + j))) := rfl
theorem y_adds : fAdd (.str a) (.str b) Q = (a.length + b.length ≤ sizeLine ∧ Q (.val (.str (a ++ b)))) := rfl
theorem y_addt : fAdd (.tuple l) (.tuple m) Q = (l.length + m.length ≤ sizeLine ∧ Q (.val (.tuple (l ++ m)))) := rfl
theorem y_addl : fAdd (.list l) (.list m) Q = (l.length + m.length ≤ sizeLine ∧ Q (.own false (l ++ m))) := rfl
theorem y_muli : fMul (.int i) (.int j) Q = (CMul i j ∧ Q (.val (.int (i * j)))) := rfl
theorem y_mull : fMul (.list l) (.int i) Q = (-(2 ^ 63) ≤ i ∧ i < 2 ^ 63 ∧ l.length * i.toNat ≤ sizeLine ∧ Q (.own false (List.replicate i.toNat l).flatten)) := rfl
theorem y_eqi : fEq (.int i) (.int j) Q = Q (.val (.bool (decide (i = j)))) := rfl
theorem y_eqs : fEq (.str a) (.str b) Q = Q (.val (.bool (decide (a = b)))) := rfl
theorem y_nei : fNe (.int i) (.int j) Q = Q (.val (.bool (!decide (i = j)))) := rfl
theorem y_nes : fNe (.str a) (.str b) Q = Q (.val (.bool (!decide (a = b)))) := rfl
theorem y_eqt : fEq (.tuple l) (.tuple m) Q = (SeqAt.shaped (.tuple l) = true ∧ SeqAt.shaped (.tuple m) = true ∧ Q (.val (.bool (PyData.eqv (.tuple l) (.tuple m))))) := rfl
theorem y_eql : fEq (.list l) (.list m) Q = (SeqAt.shaped (.list l) = true ∧ SeqAt.shaped (.list m) = true ∧ Q (.val (.bool (PyData.eqv (.list l) (.list m))))) := rfl
theorem y_lti : fLt (.int i) (.int j) Q = Q (.val (.bool (decide (i < j)))) := rfl
theorem y_fi {C : Int → Int → Prop} {g : Int → Int → PyData} : fI C g (.int i) (.int j) Q = (C i j ∧ Q (.val (g i j))) := rfl
theorem y_fi0 {g : Int → Int → PyData} : fI0 g (.int i) (.int j) Q = Q (.val (g i j)) := rfl
theorem y_isb {n : Bool} {x y : Bool} : fIsB n (.bool x) (.bool y) Q = Q (.val (.bool (if n then !decide (x = y) else decide (x = y)))) := rfl
theorem y_ixt : fIx (.tuple l) (.int i) Q = ∃ d, atI l i = some d ∧ Q (.val d) := rfl
theorem y_ixl : fIx (.list l) (.int i) Q = ∃ d, atI l i = some d ∧ Q (.val d) := rfl
theorem y_lent : fLen [.tuple l] Q = Q (.val (.int l.length)) := rfl
theorem y_lenl : fLen [.list l] Q = Q (.val (.int l.length)) := rfl
theorem y_int : fInt [.int i] Q = Q (.val (.int i)) := rfl
theorem y_tupl : fTuple [.list l] Q = Q (.val (.tuple l)) := rfl
theorem y_tupt : fTuple [.tuple l] Q = Q (.val (.tuple l)) := rfl
theorem y_lstt : fList [.tuple l] Q = Q (.own false l) := rfl
theorem y_lstl : fList [.list l] Q = Q (.own false l) := rfl
theorem y_slt {lo hi : Option Int} : fSl (.tuple l) lo hi Q = Q (.val (.tuple (cutD l lo hi))) := rfl
theorem y_sll {lo hi : Option Int} : fSl (.list l) lo hi Q = Q (.own false (cutD l lo hi)) := rfl
theorem y_repr : fReprI [.int i] Q = (i.natAbs.log2 < 1920 ∧ Q (.val (.str (toString i)))) := rfl
theorem y_exd {α : Type} {x : α} {p : α → Prop} : (∃ d, some x = some d ∧ p d) = p x := by
  refine propext ⟨fun ⟨d, e, h⟩ => ?_, fun h => ⟨x, rfl, h⟩⟩
  cases e
  exact h
theorem atI_nat {α : Type} {l : List α} {k : Nat} : atI l (k : Int) = l[k]? := by
  unfold atI ixN
  by_cases h : (k : Int) < l.length
  · rw [if_pos (by omega), if_pos h]; rfl
  · rw [if_pos (by omega), if_neg h, List.getElem?_eq_none (by omega)]; rfl
theorem atI_0 {α : Type} {l : List α} : atI l 0 = l[0]? := atI_nat (k := 0)
theorem atI_1 {α : Type} {l : List α} : atI l 1 = l[1]? := atI_nat (k := 1)
theorem atI_2 {α : Type} {l : List α} : atI l 2 = l[2]? := atI_nat (k := 2)
theorem atI_3 {α : Type} {l : List α} : atI l 3 = l[3]? := atI_nat (k := 3)
theorem atI_4 {α : Type} {l : List α} : atI l 4 = l[4]? := atI_nat (k := 4)
theorem ixN_nat {n k : Nat} (h : k < n) : ixN n (k : Int) = some k := by
  unfold ixN
  rw [if_pos (by omega), if_pos (by omega)]; simp
theorem cut_drop {α : Type} {l : List α} {k : Nat} : cutD l (some (k : Int)) none = l.drop k := by
  unfold cutD
  rw [HT.sIx_nat, HT.sIx_none]
  by_cases h : k ≤ l.length
  · rw [Nat.min_eq_left h, List.take_of_length_le (by simp)]
  · rw [Nat.min_eq_right (by omega), List.drop_eq_nil_of_le (by omega), List.drop_eq_nil_of_le (by omega)]; simp
theorem cut_drop1 {α : Type} {l : List α} : cutD l (some 1) none = l.drop 1 := cut_drop (k := 1)
theorem cut_take {α : Type} {l : List α} {k : Nat} : cutD l none (some (k : Int)) = l.take k := by
  unfold cutD
  rw [HT.sIx_nat, HT.sIx_none, List.drop_zero, Nat.sub_zero]
  by_cases h : k ≤ l.length
  · rw [Nat.min_eq_left h]
  · rw [Nat.min_eq_right (by omega), List.take_of_length_le (by omega), List.take_of_length_le (by omega)]
theorem last_snoc {α : Type} {l : List α} {x : α} : (l ++ [x])[(l ++ [x]).length - 1]? = some x := by simp
theorem y_at0 {α : Type} {x : α} {l : List α} {p : α → Prop} : (∃ d, atI (x :: l) 0 = some d ∧ p d) = p x := by rw [atI_0]; exact y_exd
theorem y_at1 {α : Type} {x y : α} {l : List α} {p : α → Prop} : (∃ d, atI (x :: y :: l) 1 = some d ∧ p d) = p y := by rw [atI_1]; exact y_exd
theorem y_at2 {α : Type} {x y z : α} {l : List α} {p : α → Prop} : (∃ d, atI (x :: y :: z :: l) 2 = some d ∧ p d) = p z := by rw [atI_2]; exact y_exd
theorem y_at3 {α : Type} {x y z w : α} {l : List α} {p : α → Prop} : (∃ d, atI (x :: y :: z :: w :: l) 3 = some d ∧ p d) = p w := by rw [atI_3]; exact y_exd
theorem y_at4 {α : Type} {x y z w v : α} {l : List α} {p : α → Prop} : (∃ d, atI (x :: y :: z :: w :: v :: l) 4 = some d ∧ p d) = p v := by rw [atI_4]; exact y_exd
theorem y_st1 {α : Type} {x y z w v : α} {p : Nat → Prop} : (∃ j, ixN [x, y, z, w, v].length 1 = some j ∧ p j) = p 1 := y_exd
theorem y_st2 {α : Type} {x y z w v : α} {p : Nat → Prop} : (∃ j, ixN [x, y, z, w, v].length 2 = some j ∧ p j) = p 2 := y_exd
theorem y_st3 {α : Type} {x y z w v : α} {p : Nat → Prop} : (∃ j, ixN [x, y, z, w, v].length 3 = some j ∧ p j) = p 3 := y_exd
theorem y_st4 {α : Type} {x y z w v : α} {p : Nat → Prop} : (∃ j, ixN [x, y, z, w, v].length 4 = some j ∧ p j) = p 4 := y_exd
end
/-- a comprehension over known items, nothing changed -/
theorem lc_map {di : DIt} {dg : PyData → Gs → (Gs → Prop) → Prop} {de : DT} {vs : List Nat} {Γ : Gs} {Q : GK} {R : GX} {items : List PyData} {f : PyData → PyData} (hd : ∀ Q' : List PyData → Gs → Prop, Q' items Γ → di Γ Q' R) (hw : wipeG Γ vs = Γ) (hz : items.length ≤ sizeLine)
    (h : ∀ d ∈ items, ∀ Q' : GK, (∀ Γ4, wipeG Γ4 vs = Γ → Q' (.val (f d)) Γ4) → dg d Γ fun Γ2 => de Γ2 Q' fun _ _ => False) (hq : Q (.own false (items.map f)) Γ) : dLc di dg dYes de vs Γ Q R := by
  refine hd _ ⟨fun i acc Γ' => i ≤ items.length ∧ acc = (items.take i).map f ∧ Γ' = Γ, ⟨Nat.zero_le _, rfl, rfl⟩, fun i acc Γ' d hi h0 => ?_, fun acc Γ' h0 => ?_⟩
  · obtain ⟨h1, rfl, rfl⟩ := h0
    rw [hw]
    have hlt : i < items.length := (List.getElem?_eq_some_iff.mp hi).1
    refine h d (List.mem_of_getElem? hi) _ fun Γ4 e => ?_
    refine ⟨by simp; omega, by omega, ?_, e⟩
    rw [List.take_add_one, hi, List.map_append]
    rfl
  · obtain ⟨_, rfl, rfl⟩ := h0
    rw [List.take_length]
    exact hq
/-- .. whose items are known by a property -/
theorem lc_mapP {di : DIt} {dg : PyData → Gs → (Gs → Prop) → Prop} {de : DT} {vs : List Nat} {Γ : Gs} {Q : GK} {R : GX} (P : List PyData → Prop) (f : PyData → PyData) (hd : ∀ Q' : List PyData → Gs → Prop, (∀ items, P items → Q' items Γ) → di Γ Q' R) (hw : wipeG Γ vs = Γ) (hz : ∀ items, P items → items.length ≤ sizeLine)
    (h : ∀ items, P items → ∀ d ∈ items, ∀ Q' : GK, (∀ Γ4, wipeG Γ4 vs = Γ → Q' (.val (f d)) Γ4) → dg d Γ fun Γ2 => de Γ2 Q' fun _ _ => False) (hq : ∀ items, P items → Q (.own false (items.map f)) Γ) : dLc di dg dYes de vs Γ Q R := by
  refine hd _ fun items hp => ?_
  exact lc_map (di := fun Γ Q _ => Q items Γ) (R := R) (fun _ h => h) hw (hz items hp) (h items hp) (hq items hp)
/-- if c: a; then the rest -/
theorem seq_if {t : DB} {a rest : DS} {D : DEnd} {Γ : Gs} (c : Bool) (ht : ∀ Q : Bool → Gs → Prop, Q c Γ → t Γ Q D.xc) (h1 : c = true → a { D with nx := rest D } Γ) (h2 : c = false → rest D Γ) : dSeq (dIfS t a dNext) rest D Γ := by
  refine ht _ ?_
  cases c with
  | true => exact h1 rfl
  | false => exact h2 rfl
theorem seq_ifP {t : DB} {a rest : DS} {D : DEnd} {Γ : Gs} (P : Gs → Prop) (c : Bool) (ht : ∀ Q : Bool → Gs → Prop, Q c Γ → t Γ Q D.xc) (h1 : c = true → ∀ K : Gs → Prop, (∀ Γ', P Γ' → K Γ') → a { D with nx := K } Γ) (h2 : c = false → P Γ) (h3 : ∀ Γ', P Γ' → rest D Γ') : dSeq (dIfS t a dNext) rest D Γ :=
  seq_if c ht (fun e => h1 e _ h3) fun e => h3 _ (h2 e)
end DL

/-! a list that is read alone: the law's script. -/
namespace DL
open PySem PySem.Spec PyProof.Rows L2 LamX
abbrev SpF := List Int → (G → Prop) → Prop
def liftF (K : PySem.W.Frag) (T : List (Addr × Str)) (ds : SpF) : Sp := fun vs H Q E => ∃ (O : AS) (a : Addr) (ns : List Int) (Q0 : G → Prop), vs = [.ref a] ∧ AllL O H ∧ SlotF K O H (some (.ref a)) a (ns.map V.int) ∧ Tabs T H ∧ ds ns Q0 ∧
  ∀ g v H', Q0 g → Fr T M0 H H' → ResOk K O H H' v g → Q v H'
def frzQ (Γ : Gs) (i : Nat) (k : Addr → List V → Prop) : Prop := match Γ[i]? with
  | some (.frz a xs) => k a xs
  | _ => False
theorem frzQ_some {Γ : Gs} {i : Nat} {k : Addr → List V → Prop} (h : frzQ Γ i k) : ∃ a xs, Γ[i]? = some (.frz a xs) ∧ k a xs := by
  unfold frzQ at h
  split at h
  · rename_i a xs e
    exact ⟨a, xs, e, h⟩
  · exact h.elim
section
variable {K : PySem.W.Frag} {T : List (Addr × Str)} {W : WX} {Z : Zc} {O : AS} {H : Hp} {Γ gs : Gs}
theorem SatA.frz_at {i : Nat} {a : Addr} {xs : List V} {σ ts : L2.St} (S : SatA K T Z O (Γ ++ gs) (σ ++ ts) H) (hl : Γ.length = σ.length) (e : Γ[i]? = some (.frz a xs)) : σ[i]? = some (some (.ref a)) ∧ SlotF K O H (some (.ref a)) a xs := by
  have hi : i < Γ.length := (List.getElem?_eq_some_iff.mp e).1
  obtain ⟨w, e2, r⟩ := S.at_ (i := i) (g := .frz a xs) (by rw [List.getElem?_append_left hi]; exact e)
  rw [List.getElem?_append_left (by omega)] at e2
  obtain ⟨rfl, r2⟩ := r
  exact ⟨e2, rfl, r2⟩
/-- x[lo:hi] -/
def dSlF (i : Nat) (dl dh : DO) : DT := fun Γ Q R => frzQ Γ i fun _ _ => dl Γ (fun lo Γ2 => dh Γ2 (fun hi Γ3 => frzQ Γ3 i fun _ xs => ∃ ns : List Int, xs = ns.map V.int ∧ Q (.own false (cutD (ns.map PyData.int) lo hi)) Γ3) R) R
theorem ats_ints {ns : List Int} : Ats K O H (ns.map V.int) (ns.map PyData.int) := by
  induction ns with
  | nil => exact .nil
  | cons n r ih => exact .cons (.int n) ih
theorem runE_slF {i : Nat} {tl th : TO} {dl dh : DO} (hl' : RunO K T W tl dl) (hh : RunO K T W th dh) : RunE K T W (tSl (rSlX K) (tVar i) tl th) (dSlF i dl dh) := by
  intro Z σ ts gs Γ H Q R q hl S h hq hx
  obtain ⟨a, xs, e, h⟩ := frzQ_some h
  obtain ⟨O, S0⟩ := id S
  obtain ⟨e1, f1⟩ := S0.frz_at hl e
  refine ⟨.ref a, e1, ?_⟩
  refine hl' Z σ ts gs Γ H _ R _ hl S h (fun lo Γ2 H2 h2 l2 S2 => ?_) hx
  refine hh Z σ ts gs Γ2 H2 _ R _ l2 S2 h2 (fun hi Γ3 H3 h3 l3 S3 => ?_) hx
  obtain ⟨a', xs', e3, ns, rfl, h3⟩ := frzQ_some h3
  obtain ⟨O3, S3⟩ := S3
  obtain ⟨e4, f4⟩ := S3.frz_at l3 e3
  rw [e1] at e4
  cases e4
  exact .inl ⟨_, _, rfl, f4.sq, fun p hp => hq _ Γ3 _ _ h3 l3 ⟨_, S3.ownL hp ((ats_ints (ns := ns)).cut)⟩⟩
/-- f(x) -/
def dCallF (ds : SpF) (i : Nat) : DT := fun Γ Q _ => frzQ Γ i fun _ xs => ∃ ns : List Int, xs = ns.map V.int ∧ ds ns fun g => Q g Γ
theorem runE_callF {ds : SpF} {i : Nat} : RunE K T W (tCall (liftF K T ds) [] E0 (tCons (tVar i) tNil)) (dCallF ds i) := by
  intro Z σ ts gs Γ H Q R q hl S h hq hx
  obtain ⟨a, xs, e, ns, rfl, h⟩ := frzQ_some h
  obtain ⟨O, S0⟩ := id S
  obtain ⟨e1, f1⟩ := S0.frz_at hl e
  exact ⟨.ref a, e1, O, a, ns, _, rfl, S0.lst, f1, S0.tabs, h, fun g v H' hg F r => hq g Γ v H' hg hl (S0.res0 F r)⟩
end
section
variable {X : Cx} {T : List (Addr × Str)} {W : WX} {pos : Pos} {k j : Nat} {x y : Str} {p p2 p3 : Pos} (K : PySem.W.Frag) (i : Nat)
theorem k_slF {lo hi : Option Expr} {tl th : TO} {dl dh : DO} (h1 : DOp X T W lo tl dl) (h2 : DOp X T W hi th dh) (hN : X.N[i]? = some x := by rfl) (hv : Vis X.env.scope x := by first | exact Or.inl rfl | exact Or.inr (Or.inl rfl) | exact Or.inr (Or.inr rfl)) (hd : (x == ("__debug__" : Str)) = false := by decide) (hcd : (x == ("__classdict__" : Str)) = false := by decide) (hK : X.K = K := by rfl) :
    DE X T W (.Subscript (.Name x p2) (.Slice lo hi none p3) pos) (tSl (rSlX K) (tVar i) tl th) (dSlF i dl dh) := by subst hK; exact ⟨pe_slice sl_any (pe_var hN hv hd hcd) h1.pe h2.pe, runE_slF h1.run h2.run⟩
theorem k_cF {K : PySem.W.Frag} {ds : SpF} (F : Cal X.prog X.w X.K X.mg X.base CX0 k x (liftF K T ds)) (hr : Room j X.A) (hj : k ≤ j) (hg : Gl X x := by rfl)
    (hN : X.N[i]? = some y := by rfl) (hv : Vis X.env.scope y := by first | exact Or.inl rfl | exact Or.inr (Or.inl rfl) | exact Or.inr (Or.inr rfl)) (hd : (y == ("__debug__" : Str)) = false := by decide) (hcd : (y == ("__classdict__" : Str)) = false := by decide)
    (hdb : (x == ("__debug__" : Str)) = false := by decide) (he : starEach [.Name y p2] X.env = (false, eval (.Name y p2) X.env) :: starEach [] X.env := by rfl) (hpl : (backTo pos (starEach [] X.env)).any (·.1) = false := by rfl) (hK : X.K = K := by rfl) :
    DE X T W (.Call (.Name x p) [.Name y p2] [] pos) (tCall (liftF K T ds) [] E0 (tCons (tVar i) tNil)) (dCallF ds i) := by
  subst hK
  obtain ⟨f, fd, ps, F, hm, hk, hb⟩ := F.ex
  exact ⟨pe_call F (hr.mono hj) hg hm hk hb .nil pass0 (pa_cons (pe_var hN hv hd hcd) pa_nil he) hdb he hpl, runE_callF⟩
end
section
variable {P : Program} {w : World} {K : PySem.W.Frag} {mg : Str → Option Value} {base : Heap} {T : List (Addr × Str)} {x : Str} {st : Stmt} {N : List Str} {p : Str} {k : Nat}
theorem fnF {f : Addr} {fd : FuncData} (F : Fun K x x st f fd) (S : FnScope N [p] (defScope st)) (ds : SpF)
    (hbody : ∀ (cdv : Value) (A : Around) (outer : List Env) (s : Shared) (H : Hp) (E : XK), Room k (A.deeper (envOfC x (defScope st) s.heap.objs.size f cdv)) → ∀ (a : Addr) ns Q0, ds ns Q0 →
      ∃ tS dS, DSs (cxOf CX0 P w K mg base N x (defScope st) f cdv A outer s H E).nox T WF (defBody st) tS dS ∧ dS { nx := fun _ => Q0 (.val .none), rt := fun g _ => g ≠ .unk ∧ Q0 g } (.frz a (ns.map V.int) :: List.replicate (N.length - 1) .unk)) :
    FnOk P w K mg base CX0 (k + 1) f fd [p] (liftF K T ds) := by
  refine F.ok S (fun vs H Q E h => ?_) (fun cdv A outer s H vs Q E hr h => ?_)
  · obtain ⟨O, a, ns, Q0, rfl, _⟩ := h
    rfl
  · obtain ⟨O, a, ns, Q0, rfl, all, hs, ht, hd, hq⟩ := h
    obtain ⟨tS, dS, D, hw⟩ := hbody cdv A outer s H E hr a ns Q0 hd
    refine ⟨tS, D.pe, ?_⟩
    have S0 : SatA K T (zP H O) O (.frz a (ns.map V.int) :: List.replicate (N.length - 1) .unk) (start N [.ref a]) H := by
      have := sat_unk (N.length - 1) ((sat_nil (K := K) all ht).push (g := .frz a (ns.map V.int)) (w := some (.ref a)) hs fun _ _ z => nomatch z)
      unfold L2.start
      simpa using this
    refine D.run (zP H O) (start N [.ref a]) [] [] _ H _ _ S0.len (by simpa using ⟨O, S0⟩) hw ⟨fun Γ' σ' H' hn a b S' => ?_, fun g Γ' v σ' H' hr n a b S' => ?_, fun Γ' σ' H' z => z.elim, fun Γ' σ' H' z => z.elim, fun c Γ' σ' H' z => z.elim⟩
    · obtain ⟨O', S'⟩ := S'
      exact hq _ _ H' hn (frP S') .non
    · obtain ⟨O', S'⟩ := S'
      exact hq g v H' hr.2 (frP S') (res_of (Z := zP H O) S' (by simp; omega) n hr.1)
theorem DefAt.mkF (D : DefAt K mg x st [p]) (S : FnScope N [p] (defScope st)) (ds : SpF)
    (hbody : ∀ (f : Addr) (cdv : Value) (A : Around) (outer : List Env) (s : Shared) (H : Hp) (E : XK), Room k (A.deeper (envOfC x (defScope st) s.heap.objs.size f cdv)) → ∀ (a : Addr) ns Q0, ds ns Q0 →
      ∃ tS dS, DSs (cxOf CX0 P w K mg base N x (defScope st) f cdv A outer s H E).nox T WF (defBody st) tS dS ∧ dS { nx := fun _ => Q0 (.val .none), rt := fun g _ => g ≠ .unk ∧ Q0 g } (.frz a (ns.map V.int) :: List.replicate (N.length - 1) .unk)) :
    Cal P w K mg base CX0 (k + 1) x (liftF K T ds) := by
  obtain ⟨f, fd, F, hm, hb⟩ := D.ex
  exact ⟨f, fd, [p], fnF F S ds (hbody f), hm, F.kp, hb⟩
end
/-- a comprehension whose walk changes the slots -/
theorem lc_mapG {di : DIt} {dg : PyData → Gs → (Gs → Prop) → Prop} {de : DT} {vs : List Nat} {Γ : Gs} {Q : GK} {R : GX} (P : List PyData → Gs → Prop) (f : PyData → PyData) (hd : ∀ Q' : List PyData → Gs → Prop, (∀ items Γ', P items Γ' → Q' items Γ') → di Γ Q' R) (hw : ∀ items Γ', P items Γ' → wipeG Γ' vs = Γ' ∧ items.length ≤ sizeLine)
    (h : ∀ items Γ', P items Γ' → ∀ d ∈ items, ∀ Q' : GK, (∀ Γ4, wipeG Γ4 vs = Γ' → Q' (.val (f d)) Γ4) → dg d Γ' fun Γ2 => de Γ2 Q' fun _ _ => False) (hq : ∀ items Γ', P items Γ' → Q (.own false (items.map f)) Γ') : dLc di dg dYes de vs Γ Q R := by
  refine hd _ fun items Γ' hp => ?_
  exact lc_map (di := fun Γ Q _ => Q items Γ) (R := R) (fun _ h => h) (hw items Γ' hp).1 (hw items Γ' hp).2 (h items Γ' hp) (hq items Γ' hp)
/-- if c: a, where c is not; then the rest -/
theorem seq_ifN {t : DB} {a rest : DS} {D : DEnd} {Γ : Gs} (P : Gs → Prop) (ht : ∀ Q : Bool → Gs → Prop, (∀ Γ', P Γ' → Q false Γ') → t Γ Q D.xc) (h : ∀ Γ', P Γ' → rest D Γ') : dSeq (dIfS t a dNext) rest D Γ := ht _ fun Γ' hp => h Γ' hp
theorem ifN {t : DB} {a : DS} {D : DEnd} {Γ : Gs} (P : Gs → Prop) (ht : ∀ Q : Bool → Gs → Prop, (∀ Γ', P Γ' → Q false Γ') → t Γ Q D.xc) (h : ∀ Γ', P Γ' → D.nx Γ') : dIfS t a dNext D Γ := ht _ fun Γ' hp => h Γ' hp
theorem seqP {a rest : DS} {D : DEnd} {Γ : Gs} (P : Gs → Prop) (h1 : ∀ K : Gs → Prop, (∀ Γ', P Γ' → K Γ') → a { D with nx := K } Γ) (h2 : ∀ Γ', P Γ' → rest D Γ') : dSeq a rest D Γ := h1 _ h2
theorem Cal.mono {P : Program} {w : World} {K : PySem.W.Frag} {mg : Str → Option Value} {base : Heap} {CX : CXT} {j k : Nat} {x : Str} {sp : Sp} (F : Cal P w K mg base CX j x sp) (h : j ≤ k := by omega) : Cal P w K mg base CX k x sp := by
  obtain ⟨f, fd, ps, F, a, b, c⟩ := F.ex
  exact ⟨f, fd, ps, F.mono h, a, b, c⟩
/-- the law's own promise, at the start -/
theorem liftF_start {K : PySem.W.Frag} {T : List (Addr × Str)} {H : Hp} {a : Addr} {ns : List Int} {ds : SpF} {E : XK} (hT : ∀ p ∈ T, H p.1 = some (.tbl #[])) (h : SqL K H a (ns.map V.int)) (hd : ds ns fun g => g = .val (.bool true)) : liftF K T ds [.ref a] H (fun v _ => v = .bl true) E := by
  refine ⟨fun _ => False, a, ns, fun g => g = .val (.bool true), rfl, fun _ z => z.elim, ⟨rfl, ?_⟩, fun p hp => TabS.nil (hT p hp), hd, fun g v H' hg _ r => ?_⟩
  · rcases h with h | h
    · exact .inl ⟨fun z => z, h⟩
    · exact .inr h
  · subst hg
    have r' : At K (fun _ => False) H' v (.bool true) := r
    cases r'
    rfl
end DL

namespace K00
open PySem PySem.Spec PyProof.Rows L2 LamX DL
def top (i : Nat) : Stmt := PySem.Challenge.pw_firstgap_k00_whole_trees_judged.main.body.getD i (.Pass ⟨0, 0, 0, 0⟩)
abbrev s_is_sign : Stmt := top 7
abbrev s_has_form : Stmt := top 8
abbrev s_is_tree : Stmt := top 9
abbrev s_check_tree : Stmt := top 10
abbrev s_node_rows : Stmt := top 11
abbrev s_raw_nodes : Stmt := top 12
abbrev s_nodes_many : Stmt := top 13
abbrev s_deep : Stmt := top 14
abbrev s_raw_signs : Stmt := top 15
abbrev s_signs_in : Stmt := top 16
abbrev s_paths_of : Stmt := top 17
abbrev s_mirrored : Stmt := top 19
abbrev s_tree_text : Stmt := top 24
abbrev s_lines_of : Stmt := top 25
abbrev s_ulaw_hand : Stmt := top 27
abbrev s_ulaw_draw : Stmt := top 28
abbrev s_ulaw_some : Stmt := top 29
abbrev s_ulaw_ranks : Stmt := top 30
abbrev s_ulaw_tree : Stmt := top 31
abbrev s_ulaw_wide : Stmt := top 32
abbrev s_ulaw_chain : Stmt := top 33
abbrev s_ulaw_nodes : Stmt := top 34
abbrev s_ulaw_deep : Stmt := top 35
abbrev s_ulaw_signs : Stmt := top 36
abbrev s_ulaw_paths : Stmt := top 37
abbrev s_ulaw_put : Stmt := top 38
abbrev s_ulaw_no_tree : Stmt := top 39
abbrev s_ulaw_word : Stmt := top 40
abbrev s_ulaw_is_right : Stmt := top 41
abbrev s_ulaw_is_refused : Stmt := top 42
abbrev s_law : Stmt := top 43
def tab_RANKS : List (Str × PyData) := [("a", .int 0), ("b", .int 0), ("c", .int 0), ("f", .int 2), ("g", .int 2), ("h", .int 3), ("s", .int 1), ("t", .int 1)]
theorem sc_is_sign : FnScope ["thing"] ["thing"] (defScope s_is_sign) := ⟨rfl, rfl, rfl, by decide +kernel, rfl, by decide +kernel, by decide +kernel⟩
theorem sc_has_form : FnScope ["thing"] ["thing"] (defScope s_has_form) := ⟨rfl, rfl, rfl, by decide +kernel, rfl, by decide +kernel, by decide +kernel⟩
theorem sc_is_tree : FnScope ["thing", "many", "waiting", "here", "depth", "part"] ["thing"] (defScope s_is_tree) := ⟨rfl, rfl, rfl, by decide +kernel, rfl, by decide +kernel, by decide +kernel⟩
theorem sc_check_tree : FnScope ["thing"] ["thing"] (defScope s_check_tree) := ⟨rfl, rfl, rfl, by decide +kernel, rfl, by decide +kernel, by decide +kernel⟩
theorem sc_node_rows : FnScope ["tree", "found", "waiting", "path", "here", "at", "part"] ["tree"] (defScope s_node_rows) := ⟨rfl, rfl, rfl, by decide +kernel, rfl, by decide +kernel, by decide +kernel⟩
theorem sc_raw_nodes : FnScope ["tree"] ["tree"] (defScope s_raw_nodes) := ⟨rfl, rfl, rfl, by decide +kernel, rfl, by decide +kernel, by decide +kernel⟩
theorem sc_nodes_many : FnScope ["tree"] ["tree"] (defScope s_nodes_many) := ⟨rfl, rfl, rfl, by decide +kernel, rfl, by decide +kernel, by decide +kernel⟩
theorem sc_deep : FnScope ["tree", "path", "node"] ["tree"] (defScope s_deep) := ⟨rfl, rfl, rfl, by decide +kernel, rfl, by decide +kernel, by decide +kernel⟩
theorem sc_raw_signs : FnScope ["tree", "path", "node"] ["tree"] (defScope s_raw_signs) := ⟨rfl, rfl, rfl, by decide +kernel, rfl, by decide +kernel, by decide +kernel⟩
theorem sc_signs_in : FnScope ["tree"] ["tree"] (defScope s_signs_in) := ⟨rfl, rfl, rfl, by decide +kernel, rfl, by decide +kernel, by decide +kernel⟩
theorem sc_paths_of : FnScope ["tree", "path", "node"] ["tree"] (defScope s_paths_of) := ⟨rfl, rfl, rfl, by decide +kernel, rfl, by decide +kernel, by decide +kernel⟩
theorem sc_mirrored : FnScope ["tree"] ["tree"] (defScope s_mirrored) := ⟨rfl, rfl, rfl, by decide +kernel, rfl, by decide +kernel, by decide +kernel⟩
theorem sc_tree_text : FnScope ["tree"] ["tree"] (defScope s_tree_text) := ⟨rfl, rfl, rfl, by decide +kernel, rfl, by decide +kernel, by decide +kernel⟩
theorem sc_lines_of : FnScope ["tree", "path", "node"] ["tree"] (defScope s_lines_of) := ⟨rfl, rfl, rfl, by decide +kernel, rfl, by decide +kernel, by decide +kernel⟩
theorem sc_ulaw_hand : FnScope ["script", "cells", "cell"] ["script"] (defScope s_ulaw_hand) := ⟨rfl, rfl, rfl, by decide +kernel, rfl, by decide +kernel, by decide +kernel⟩
theorem sc_ulaw_draw : FnScope ["hand", "many", "number", "cell", "digit"] ["hand", "many"] (defScope s_ulaw_draw) := ⟨rfl, rfl, rfl, by decide +kernel, rfl, by decide +kernel, by decide +kernel⟩
theorem sc_ulaw_some : FnScope ["hand", "things"] ["hand", "things"] (defScope s_ulaw_some) := ⟨rfl, rfl, rfl, by decide +kernel, rfl, by decide +kernel, by decide +kernel⟩
theorem sc_ulaw_ranks : FnScope [] [] (defScope s_ulaw_ranks) := ⟨rfl, rfl, rfl, by decide +kernel, rfl, by decide +kernel, by decide +kernel⟩
theorem sc_ulaw_tree : FnScope ["hand", "far", "sign", "part"] ["hand", "far"] (defScope s_ulaw_tree) := ⟨rfl, rfl, rfl, by decide +kernel, rfl, by decide +kernel, by decide +kernel⟩
theorem sc_ulaw_wide : FnScope ["hand", "many", "half"] ["hand", "many"] (defScope s_ulaw_wide) := ⟨rfl, rfl, rfl, by decide +kernel, rfl, by decide +kernel, by decide +kernel⟩
theorem sc_ulaw_chain : FnScope ["hand", "many", "found", "turn"] ["hand", "many"] (defScope s_ulaw_chain) := ⟨rfl, rfl, rfl, by decide +kernel, rfl, by decide +kernel, by decide +kernel⟩
theorem sc_ulaw_nodes : FnScope ["tree", "part"] ["tree"] (defScope s_ulaw_nodes) := ⟨rfl, rfl, rfl, by decide +kernel, rfl, by decide +kernel, by decide +kernel⟩
theorem sc_ulaw_deep : FnScope ["tree", "part"] ["tree"] (defScope s_ulaw_deep) := ⟨rfl, rfl, rfl, by decide +kernel, rfl, by decide +kernel, by decide +kernel⟩
theorem sc_ulaw_signs : FnScope ["tree", "part"] ["tree"] (defScope s_ulaw_signs) := ⟨rfl, rfl, rfl, by decide +kernel, rfl, by decide +kernel, by decide +kernel⟩
theorem sc_ulaw_paths : FnScope ["tree", "found", "at", "part", "path"] ["tree"] (defScope s_ulaw_paths) := ⟨rfl, rfl, rfl, by decide +kernel, rfl, by decide +kernel, by decide +kernel⟩
theorem sc_ulaw_put : FnScope ["tree", "path", "other", "at"] ["tree", "path", "other"] (defScope s_ulaw_put) := ⟨rfl, rfl, rfl, by decide +kernel, rfl, by decide +kernel, by decide +kernel⟩
theorem sc_ulaw_no_tree : FnScope ["hand", "tree", "wrong", "thing"] ["hand", "tree"] (defScope s_ulaw_no_tree) := ⟨rfl, rfl, rfl, by decide +kernel, rfl, by decide +kernel, by decide +kernel⟩
theorem sc_ulaw_word : FnScope ["call", "error"] ["call"] (defScope s_ulaw_word) := ⟨rfl, rfl, rfl, by decide +kernel, rfl, by decide +kernel, by decide +kernel⟩
theorem sc_ulaw_is_right : FnScope ["tree"] ["tree"] (defScope s_ulaw_is_right) := ⟨rfl, rfl, rfl, by decide +kernel, rfl, by decide +kernel, by decide +kernel⟩
theorem sc_ulaw_is_refused : FnScope ["thing", "words"] ["thing"] (defScope s_ulaw_is_refused) := ⟨rfl, rfl, rfl, by decide +kernel, rfl, by decide +kernel, by decide +kernel⟩
theorem sc_law : FnScope ["script", "hand", "turn", "tree", "great", "long", "many", "far", "one"] ["script"] (defScope s_law) := ⟨rfl, rfl, rfl, by decide +kernel, rfl, by decide +kernel, by decide +kernel⟩
end K00

namespace K00
open PySem PySem.Spec PyProof.Rows L2 LamX DL
/-! ### plain -/
def rkL : List (Str × Int) := [("a", 0), ("b", 0), ("c", 0), ("f", 2), ("g", 2), ("h", 3), ("s", 1), ("t", 1)]
theorem tab_eq : tab_RANKS = rkL.map fun q => (q.1, PyData.int q.2) := rfl
theorem lookup_mapI (l : List (Str × Int)) (z : Str) : (l.map fun q => (q.1, PyData.int q.2)).lookup z = (l.lookup z).map PyData.int := by
  induction l with
  | nil => rfl
  | cons q r ih =>
    rw [List.map_cons, List.lookup_cons, List.lookup_cons]
    cases z == q.1
    · exact ih
    · rfl
def rank (z : Str) : Option Int := rkL.lookup z
theorem tab_lookup (z : Str) : tab_RANKS.lookup z = (rank z).map PyData.int := by rw [tab_eq, lookup_mapI]; rfl
theorem isT_str (d : PyData) : isT "str" d = (match d with | .str _ => true | _ => false) := by cases d <;> rfl
theorem isT_tuple (d : PyData) : isT "tuple" d = (match d with | .tuple _ => true | _ => false) := by cases d <;> rfl
def isSign : PyData → Bool
  | .str z => (rank z).isSome
  | _ => false
def hasForm : PyData → Bool
  | .tuple (.str z :: ps) => match rank z with
    | some n => decide ((ps.length : Int) = n)
    | none => false
  | _ => false
def parts : PyData → List PyData
  | .tuple (_ :: ps) => ps
  | _ => []
/-! ### the tree test -/
def goT : Nat → List (PyData × Int) → Bool
  | _, [] => true
  | 0, _ :: _ => false
  | n + 1, x :: r => if 40 < x.2 then false else if hasForm x.1 = true then goT n (((parts x.1).map fun p => (p, x.2 + 1)).reverse ++ r) else false
def isTree (d : PyData) : Bool := goT 300 [(d, 1)]
/-! ### trees -/
inductive IsTr : PyData → Prop where
  | mk {z : Str} {ps : List PyData} : rank z = some (ps.length : Int) → (∀ p ∈ ps, IsTr p) → IsTr (.tuple (.str z :: ps))
mutual
def nd : PyData → Nat
  | .tuple (_ :: ps) => 1 + nds ps
  | _ => 1
def nds : List PyData → Nat
  | [] => 0
  | p :: r => nd p + nds r
end
mutual
def dp : PyData → Nat
  | .tuple (_ :: ps) => 1 + dps ps
  | _ => 1
def dps : List PyData → Nat
  | [] => 0
  | p :: r => max (dp p) (dps r)
end
mutual
def sg : PyData → Str
  | .tuple (.str z :: ps) => z ++ sgs ps
  | _ => Str.empty
def sgs : List PyData → Str
  | [] => Str.empty
  | p :: r => sg p ++ sgs r
end
mutual
def pre (q : List Int) : PyData → List (List Int × PyData)
  | .tuple (x :: ps) => (q, .tuple (x :: ps)) :: pres q 0 ps
  | d => [(q, d)]
def pres (q : List Int) (k : Nat) : List PyData → List (List Int × PyData)
  | [] => []
  | p :: r => pre (q ++ [(k : Int)]) p ++ pres q (k + 1) r
end
def rowD (r : List Int × PyData) : PyData := .tuple [.tuple (r.1.map .int), r.2]
/-! ### what each def promises -/
def spIsSign : SpP := fun as Q _ => ∃ d, as = [d] ∧ Q (.val (.bool (isSign d)))
def spHasForm : SpP := fun as Q _ => ∃ d, as = [d] ∧ Q (.val (.bool (hasForm d)))
def spIsTree : SpP := fun as Q _ => ∃ d, as = [d] ∧ Q (.val (.bool (isTree d)))
/-- of a right tree -/
def spCheck0 : SpP := fun as Q _ => ∃ d, as = [d] ∧ isTree d = true ∧ Q (.val .none)
/-- of a wrong one -/
def spBad (c : Addr) : SpP := fun as _ R => ∃ d, as = [d] ∧ isTree d = false ∧ R c
def spRows : SpP := fun as Q _ => ∃ d, as = [d] ∧ IsTr d ∧ nd d ≤ 300 ∧ Q (.val (.list ((pre [] d).map rowD)))
def spRaw : SpP := fun as Q _ => ∃ d, as = [d] ∧ IsTr d ∧ nd d ≤ 300 ∧ Q (.val (.int (nd d)))
def spMany : SpP := fun as Q _ => ∃ d, as = [d] ∧ isTree d = true ∧ Q (.val (.int (nd d)))
def spDeep : SpP := fun as Q _ => ∃ d, as = [d] ∧ isTree d = true ∧ Q (.val (.int (dp d)))
def spRawSg : SpP := fun as Q _ => ∃ d, as = [d] ∧ IsTr d ∧ nd d ≤ 300 ∧ Q (.val (.str (sg d)))
def spSigns : SpP := fun as Q _ => ∃ d, as = [d] ∧ isTree d = true ∧ Q (.val (.str (sg d)))
/-- the hand -/
def HandOk (hd : List PyData) : Prop := ∃ (cs : List Int) (p b r t : Int), hd = [.list (cs.map .int), .int p, .int b, .int r, .int t] ∧ 0 ≤ p ∧ 0 ≤ b
def spDraw : SpH := fun hd as Q _ => ∃ m : Int, as = [.int m] ∧ 0 < m ∧ m < 1073741824 ∧ HandOk hd ∧ ∀ r hd', 0 ≤ r → r < m → HandOk hd' → Q (.val (.int r)) hd'
def spSome : SpH := fun hd as Q _ => ∃ l, as = [.list l] ∧ 0 < l.length ∧ l.length < 1073741824 ∧ HandOk hd ∧ ∀ d hd', d ∈ l → HandOk hd' → Q (.val d) hd'
def spRanks : SpP := fun as Q _ => as = [] ∧ Q (.val (dcI [("a", 0), ("b", 0), ("c", 0), ("s", 1), ("t", 1), ("f", 2), ("g", 2), ("h", 3)]))
/-- a drawn tree of depth up to n -/
def gN : Nat → Nat
  | 0 => 0
  | n + 1 => 1 + 3 * gN n
def spTree : Nat → SpH
  | 0 => fun _ _ _ _ => False
  | n + 1 => fun hd as Q _ => ∃ far : Int, as = [.int far] ∧ far ≤ (n + 1 : Nat) ∧ HandOk hd ∧ ∀ d hd', IsTr d → dp d ≤ n + 1 → nd d ≤ gN (n + 1) → HandOk hd' → Q (.val d) hd'
def rk : Nat → Nat → Bool
  | 0, _ => false
  | m + 1, n => n == 1 || (n != 0 && (if n % 2 = 0 then rk m (n - 1) else rk m ((n - 1) / 2)))
def spWide : Nat → SpH
  | 0 => fun _ _ _ _ => False
  | m + 1 => fun hd as Q _ => ∃ n : Nat, as = [.int n] ∧ rk (m + 1) n = true ∧ n ≤ 301 ∧ HandOk hd ∧ ∀ d hd', IsTr d → dp d ≤ m + 1 → nd d = n → HandOk hd' → Q (.val d) hd'
def spChain : SpH := fun hd as Q _ => ∃ n : Nat, as = [.int n] ∧ 1 ≤ n ∧ n ≤ 41 ∧ HandOk hd ∧ ∀ d hd', IsTr d → dp d = n → nd d = n → HandOk hd' → Q (.val d) hd'
def spNodes : Nat → SpP
  | 0 => fun _ _ _ => False
  | n + 1 => fun as Q _ => ∃ d, as = [d] ∧ IsTr d ∧ dp d ≤ n + 1 ∧ Q (.val (.int (nd d)))
def spDp : Nat → SpP
  | 0 => fun _ _ _ => False
  | n + 1 => fun as Q _ => ∃ d, as = [d] ∧ IsTr d ∧ dp d ≤ n + 1 ∧ Q (.val (.int (dp d)))
def spSg : Nat → SpP
  | 0 => fun _ _ _ => False
  | n + 1 => fun as Q _ => ∃ d, as = [d] ∧ IsTr d ∧ dp d ≤ n + 1 ∧ nd d ≤ 300 ∧ Q (.val (.str (sg d)))
/-- a place in a tree -/
def At' : PyData → List Nat → Prop
  | _, [] => True
  | d, k :: r => ∃ e, (parts d)[k]? = some e ∧ At' e r
def pathD (p : List Nat) : PyData := .tuple (p.map fun (k : Nat) => PyData.int (k : Int))
def spPaths : Nat → SpP
  | 0 => fun _ _ _ => False
  | n + 1 => fun as Q _ => ∃ d, as = [d] ∧ IsTr d ∧ dp d ≤ n + 1 ∧ nd d ≤ 300 ∧ ∀ ps : List (List Nat), (∀ p ∈ ps, At' d p ∧ p.length < dp d) → ps.length = nd d → Q (.val (.list (ps.map pathD)))
def spPut : Nat → SpP
  | 0 => fun _ _ _ => False
  | n + 1 => fun as Q _ => ∃ d p o, as = [d, pathD p, o] ∧ IsTr d ∧ At' d p ∧ p.length ≤ n ∧ ∀ r, (IsTr r → IsTr o) → Q (.val r)
def spNo : SpH := fun hd as Q _ => ∃ d, as = [d] ∧ IsTr d ∧ dp d ≤ 5 ∧ nd d ≤ 300 ∧ HandOk hd ∧ ∀ r hd', isTree r = false → HandOk hd' → Q (.val r) hd'
def spHand : SpF := fun ns Q0 => ns.length ≤ 63 ∧ ∀ hd, HandOk hd → Q0 (.own false hd)
def spLawF : SpF := fun ns Q0 => ns.length ≤ 63 ∧ Q0 (.val (.bool true))
def spRight : SpP := fun as Q _ => ∃ d, as = [d] ∧ IsTr d ∧ dp d ≤ 40 ∧ nd d ≤ 300 ∧ Q (.val (.bool true))
def spRefused : SpP := fun as Q _ => ∃ d, as = [d] ∧ isTree d = false ∧ Q (.val (.bool true))
end K00

namespace K00
open PySem PySem.Spec PyProof.Rows L2 LamX DL
def db_is_sign   : DS := (dRet (dAndV (dIsi "str" (dVar 0)) (dUn (fInT tab_RANKS) (dVar 0))))
theorem c_is_sign {P : Program} {w : World} {K : PySem.W.Frag} {mg : Str → Option Value} {base : Heap} {T : List (Addr × Str)} {k : Nat} {sp : SpP} (D : DefAt K mg "is_sign" s_is_sign ["thing"]) (B : Bi mg builtL) (T_RANKS : ∃ a, mg "RANKS" = some (.ref a) ∧ KTab K w a tab_RANKS) (hlen : ∀ as Q R, sp as Q R → as.length = 1) (law : ∀ as Q0 R0, sp as Q0 R0 → db_is_sign   { nx := fun _ => Q0 (.val .none), rt := fun g _ => g ≠ .unk ∧ Q0 g } (startG 1 as)) :
    Cal P w K mg base CX0 (k + 1) "is_sign" (liftP K T sp) := by
  obtain ⟨a_RANKS, m_RANKS, D_RANKS⟩ := T_RANKS
  have sc := sc_is_sign
  have hj : k ≤ k := by omega
  exact D.mkP sc _ hlen (fun f cdv A outer s H E hr as Q0 R0 h => ⟨_, _, (by exact (ss_one (s_ret (e_andV (k_isi K kit_str PyProof.Rows.boot_str (B "isinstance" (by decide)) (B "str" (by decide)) (e_var 0)) (e_one (k_inT K D_RANKS m_RANKS (e_var 0))))))), law as Q0 R0 h⟩)
theorem l_is_sign : ∀ as Q0 R0, spIsSign as Q0 R0 → db_is_sign  { nx := fun _ => Q0 (.val .none), rt := fun g _ => g ≠ .unk ∧ Q0 g } (startG 1 as) := by
  rintro _ Q0 R0 ⟨d, rfl, h⟩
  cases d with
  | str z =>
    simp only [db_is_sign, isT_str, tab_lookup, dSeq, dRet, dRetN, dNext, dAndV, dOrV, dNotV, dIsi, dVar, dC, dUn, dOp, dCB, dCons, dNil, dTup, dLst, dTest, dAnd, dOr, dNot, dIf, dIfS, dAsg, dPar, dDrop, dAug, dAsgT, dgName, dgNil, dgCons, dgTup, dCall, dCallX, fInT, fIxT, dSl, dPart, dNoPart, dLenV, dIxV, dSlV, dApp, dExt, dPop, dSetIx, ownQ, putO, dYes, dSeqI, dEnum, dRng1, wipeG, startG, List.map_cons, List.map_nil, List.length_cons, List.length_nil, List.replicate, List.cons_append, List.nil_append, List.getElem?_cons_zero, List.getElem?_cons_succ, List.set_cons_zero, List.set_cons_succ, Nat.reduceAdd, Nat.reduceSub, Nat.zero_add, ne_eq, reduceCtorEq, not_false_eq_true, true_and, if_true, if_false, Bool.false_eq_true, decide_eq_true_eq, decide_true, decide_false, Bool.not_true, Bool.not_false, ite_true, ite_false, reduceIte, Option.some.injEq, exists_eq_left', List.drop_succ_cons, List.drop_zero, ↓y_wdv, ↓y_wdo, ↓y_wds0, ↓y_wds1, ↓y_okv, ↓y_oko, ↓y_addi, ↓y_adds, ↓y_addt, ↓y_addl, ↓y_muli, ↓y_mull, ↓y_eqi, ↓y_eqs, ↓y_nei, ↓y_nes, ↓y_eqt, ↓y_eql, ↓y_lti, ↓y_fi, ↓y_fi0, ↓y_isb, ↓y_ixt, ↓y_ixl, ↓y_lent, ↓y_lenl, ↓y_int, ↓y_tupl, ↓y_tupt, ↓y_lstt, ↓y_lstl, ↓y_slt, ↓y_sll, ↓y_repr, ↓y_at0, ↓y_at1, ↓y_at2, ↓y_at3, ↓y_at4, ↓y_st1, ↓y_st2, ↓y_st3, ↓y_st4, ↓y_exd, atI_0, atI_1, atI_2, atI_3, atI_4, cut_drop1]
    refine ⟨_, rfl, ?_⟩
    rw [Option.isSome_map]
    exact h
  | _ => simp only [db_is_sign, isT_str, dSeq, dRet, dRetN, dNext, dAndV, dOrV, dNotV, dIsi, dVar, dC, dUn, dOp, dCB, dCons, dNil, dTup, dLst, dTest, dAnd, dOr, dNot, dIf, dIfS, dAsg, dPar, dDrop, dAug, dAsgT, dgName, dgNil, dgCons, dgTup, dCall, dCallX, fInT, fIxT, dSl, dPart, dNoPart, dLenV, dIxV, dSlV, dApp, dExt, dPop, dSetIx, ownQ, putO, dYes, dSeqI, dEnum, dRng1, wipeG, startG, List.map_cons, List.map_nil, List.length_cons, List.length_nil, List.replicate, List.cons_append, List.nil_append, List.getElem?_cons_zero, List.getElem?_cons_succ, List.set_cons_zero, List.set_cons_succ, Nat.reduceAdd, Nat.reduceSub, Nat.zero_add, ne_eq, reduceCtorEq, not_false_eq_true, true_and, if_true, if_false, Bool.false_eq_true, decide_eq_true_eq, decide_true, decide_false, Bool.not_true, Bool.not_false, ite_true, ite_false, reduceIte, Option.some.injEq, exists_eq_left', List.drop_succ_cons, List.drop_zero, ↓y_wdv, ↓y_wdo, ↓y_wds0, ↓y_wds1, ↓y_okv, ↓y_oko, ↓y_addi, ↓y_adds, ↓y_addt, ↓y_addl, ↓y_muli, ↓y_mull, ↓y_eqi, ↓y_eqs, ↓y_nei, ↓y_nes, ↓y_eqt, ↓y_eql, ↓y_lti, ↓y_fi, ↓y_fi0, ↓y_isb, ↓y_ixt, ↓y_ixl, ↓y_lent, ↓y_lenl, ↓y_int, ↓y_tupl, ↓y_tupt, ↓y_lstt, ↓y_lstl, ↓y_slt, ↓y_sll, ↓y_repr, ↓y_at0, ↓y_at1, ↓y_at2, ↓y_at3, ↓y_at4, ↓y_st1, ↓y_st2, ↓y_st3, ↓y_st4, ↓y_exd, atI_0, atI_1, atI_2, atI_3, atI_4, cut_drop1]; exact h
end K00

namespace K00
open PySem PySem.Spec PyProof.Rows L2 LamX DL
def db_has_form (sp_is_sign : SpP)  : DS := (dRet (dAndV (dIsi "tuple" (dVar 0)) (dAndV (dOp (fI0 fun i j => .bool (decide (j < i))) (dCB fLen (dCons (dVar 0) dNil)) (dC (.int 0))) (dAndV (dCall sp_is_sign (dCons (dOp fIx (dVar 0) (dC (.int 0))) dNil)) (dOp fEq (dCB fLen (dCons (dVar 0) dNil)) (dOp fAdd (dC (.int 1)) (dUn (fIxT tab_RANKS) (dOp fIx (dVar 0) (dC (.int 0))))))))))
theorem c_has_form {P : Program} {w : World} {K : PySem.W.Frag} {mg : Str → Option Value} {base : Heap} {T : List (Addr × Str)} {k : Nat} {sp_is_sign : SpP} {sp : SpP} (D : DefAt K mg "has_form" s_has_form ["thing"]) (B : Bi mg builtL) (F_is_sign : Cal P w K mg base CX0 k "is_sign" (liftP K T sp_is_sign)) (T_RANKS : ∃ a, mg "RANKS" = some (.ref a) ∧ KTab K w a tab_RANKS) (hlen : ∀ as Q R, sp as Q R → as.length = 1) (law : ∀ as Q0 R0, sp as Q0 R0 → db_has_form sp_is_sign  { nx := fun _ => Q0 (.val .none), rt := fun g _ => g ≠ .unk ∧ Q0 g } (startG 1 as)) :
    Cal P w K mg base CX0 (k + 1) "has_form" (liftP K T sp) := by
  obtain ⟨a_RANKS, m_RANKS, D_RANKS⟩ := T_RANKS
  have sc := sc_has_form
  have hj : k ≤ k := by omega
  exact D.mkP sc _ hlen (fun f cdv A outer s H E hr as Q0 R0 h => ⟨_, _, (by exact (ss_one (s_ret (e_andV (k_isi K kit_tuple PyProof.Rows.boot_tuple (B "isinstance" (by decide)) (B "tuple" (by decide)) (e_var 0)) (e_andV (e_cmp c_gt (k_cb (q_len K) PySem.boot_len (B "len" (by decide)) (as_cons (e_var 0) as_nil)) (e_int)) (e_andV (k_c F_is_sign hr (as_cons (k_ix K (e_var 0) (e_int)) as_nil) hj) (e_one (e_cmp (k_eq K hr.units) (k_cb (q_len K) PySem.boot_len (B "len" (by decide)) (as_cons (e_var 0) as_nil)) (e_bin (k_add K) (e_int) (k_ixT K D_RANKS m_RANKS (k_ix K (e_var 0) (e_int)))))))))))), law as Q0 R0 h⟩)
theorem l_has_form : ∀ as Q0 R0, spHasForm as Q0 R0 → db_has_form spIsSign { nx := fun _ => Q0 (.val .none), rt := fun g _ => g ≠ .unk ∧ Q0 g } (startG 1 as) := by
  rintro _ Q0 R0 ⟨d, rfl, h⟩
  cases d with
  | tuple l =>
    simp only [db_has_form, isT_tuple, tab_lookup, spIsSign, dSeq, dRet, dRetN, dNext, dAndV, dOrV, dNotV, dIsi, dVar, dC, dUn, dOp, dCB, dCons, dNil, dTup, dLst, dTest, dAnd, dOr, dNot, dIf, dIfS, dAsg, dPar, dDrop, dAug, dAsgT, dgName, dgNil, dgCons, dgTup, dCall, dCallX, fInT, fIxT, dSl, dPart, dNoPart, dLenV, dIxV, dSlV, dApp, dExt, dPop, dSetIx, ownQ, putO, dYes, dSeqI, dEnum, dRng1, wipeG, startG, List.map_cons, List.map_nil, List.length_cons, List.length_nil, List.replicate, List.cons_append, List.nil_append, List.getElem?_cons_zero, List.getElem?_cons_succ, List.set_cons_zero, List.set_cons_succ, Nat.reduceAdd, Nat.reduceSub, Nat.zero_add, ne_eq, reduceCtorEq, not_false_eq_true, true_and, if_true, if_false, Bool.false_eq_true, decide_eq_true_eq, decide_true, decide_false, Bool.not_true, Bool.not_false, ite_true, ite_false, reduceIte, Option.some.injEq, exists_eq_left', List.drop_succ_cons, List.drop_zero, ↓y_wdv, ↓y_wdo, ↓y_wds0, ↓y_wds1, ↓y_okv, ↓y_oko, ↓y_addi, ↓y_adds, ↓y_addt, ↓y_addl, ↓y_muli, ↓y_mull, ↓y_eqi, ↓y_eqs, ↓y_nei, ↓y_nes, ↓y_eqt, ↓y_eql, ↓y_lti, ↓y_fi, ↓y_fi0, ↓y_isb, ↓y_ixt, ↓y_ixl, ↓y_lent, ↓y_lenl, ↓y_int, ↓y_tupl, ↓y_tupt, ↓y_lstt, ↓y_lstl, ↓y_slt, ↓y_sll, ↓y_repr, ↓y_at0, ↓y_at1, ↓y_at2, ↓y_at3, ↓y_at4, ↓y_st1, ↓y_st2, ↓y_st3, ↓y_st4, ↓y_exd, atI_0, atI_1, atI_2, atI_3, atI_4, cut_drop1]
    cases l with
    | nil => exact h
    | cons x ps =>
      rw [if_pos (by simp)]
      simp only [dSeq, dRet, dRetN, dNext, dAndV, dOrV, dNotV, dIsi, dVar, dC, dUn, dOp, dCB, dCons, dNil, dTup, dLst, dTest, dAnd, dOr, dNot, dIf, dIfS, dAsg, dPar, dDrop, dAug, dAsgT, dgName, dgNil, dgCons, dgTup, dCall, dCallX, fInT, fIxT, dSl, dPart, dNoPart, dLenV, dIxV, dSlV, dApp, dExt, dPop, dSetIx, ownQ, putO, dYes, dSeqI, dEnum, dRng1, wipeG, startG, List.map_cons, List.map_nil, List.length_cons, List.length_nil, List.replicate, List.cons_append, List.nil_append, List.getElem?_cons_zero, List.getElem?_cons_succ, List.set_cons_zero, List.set_cons_succ, Nat.reduceAdd, Nat.reduceSub, Nat.zero_add, ne_eq, reduceCtorEq, not_false_eq_true, true_and, if_true, if_false, Bool.false_eq_true, decide_eq_true_eq, decide_true, decide_false, Bool.not_true, Bool.not_false, ite_true, ite_false, reduceIte, Option.some.injEq, exists_eq_left', List.drop_succ_cons, List.drop_zero, ↓y_wdv, ↓y_wdo, ↓y_wds0, ↓y_wds1, ↓y_okv, ↓y_oko, ↓y_addi, ↓y_adds, ↓y_addt, ↓y_addl, ↓y_muli, ↓y_mull, ↓y_eqi, ↓y_eqs, ↓y_nei, ↓y_nes, ↓y_eqt, ↓y_eql, ↓y_lti, ↓y_fi, ↓y_fi0, ↓y_isb, ↓y_ixt, ↓y_ixl, ↓y_lent, ↓y_lenl, ↓y_int, ↓y_tupl, ↓y_tupt, ↓y_lstt, ↓y_lstl, ↓y_slt, ↓y_sll, ↓y_repr, ↓y_at0, ↓y_at1, ↓y_at2, ↓y_at3, ↓y_at4, ↓y_st1, ↓y_st2, ↓y_st3, ↓y_st4, ↓y_exd, atI_0, atI_1, atI_2, atI_3, atI_4, cut_drop1]
      refine ⟨x, rfl, ?_⟩
      cases x with
      | str z =>
        cases e : rank z with
        | none =>
          simp only [isSign, e, Option.isSome_none, dSeq, dRet, dRetN, dNext, dAndV, dOrV, dNotV, dIsi, dVar, dC, dUn, dOp, dCB, dCons, dNil, dTup, dLst, dTest, dAnd, dOr, dNot, dIf, dIfS, dAsg, dPar, dDrop, dAug, dAsgT, dgName, dgNil, dgCons, dgTup, dCall, dCallX, fInT, fIxT, dSl, dPart, dNoPart, dLenV, dIxV, dSlV, dApp, dExt, dPop, dSetIx, ownQ, putO, dYes, dSeqI, dEnum, dRng1, wipeG, startG, List.map_cons, List.map_nil, List.length_cons, List.length_nil, List.replicate, List.cons_append, List.nil_append, List.getElem?_cons_zero, List.getElem?_cons_succ, List.set_cons_zero, List.set_cons_succ, Nat.reduceAdd, Nat.reduceSub, Nat.zero_add, ne_eq, reduceCtorEq, not_false_eq_true, true_and, if_true, if_false, Bool.false_eq_true, decide_eq_true_eq, decide_true, decide_false, Bool.not_true, Bool.not_false, ite_true, ite_false, reduceIte, Option.some.injEq, exists_eq_left', List.drop_succ_cons, List.drop_zero, ↓y_wdv, ↓y_wdo, ↓y_wds0, ↓y_wds1, ↓y_okv, ↓y_oko, ↓y_addi, ↓y_adds, ↓y_addt, ↓y_addl, ↓y_muli, ↓y_mull, ↓y_eqi, ↓y_eqs, ↓y_nei, ↓y_nes, ↓y_eqt, ↓y_eql, ↓y_lti, ↓y_fi, ↓y_fi0, ↓y_isb, ↓y_ixt, ↓y_ixl, ↓y_lent, ↓y_lenl, ↓y_int, ↓y_tupl, ↓y_tupt, ↓y_lstt, ↓y_lstl, ↓y_slt, ↓y_sll, ↓y_repr, ↓y_at0, ↓y_at1, ↓y_at2, ↓y_at3, ↓y_at4, ↓y_st1, ↓y_st2, ↓y_st3, ↓y_st4, ↓y_exd, atI_0, atI_1, atI_2, atI_3, atI_4, cut_drop1]
          simpa [hasForm, e] using h
        | some n =>
          simp only [isSign, e, Option.isSome_some, dSeq, dRet, dRetN, dNext, dAndV, dOrV, dNotV, dIsi, dVar, dC, dUn, dOp, dCB, dCons, dNil, dTup, dLst, dTest, dAnd, dOr, dNot, dIf, dIfS, dAsg, dPar, dDrop, dAug, dAsgT, dgName, dgNil, dgCons, dgTup, dCall, dCallX, fInT, fIxT, dSl, dPart, dNoPart, dLenV, dIxV, dSlV, dApp, dExt, dPop, dSetIx, ownQ, putO, dYes, dSeqI, dEnum, dRng1, wipeG, startG, List.map_cons, List.map_nil, List.length_cons, List.length_nil, List.replicate, List.cons_append, List.nil_append, List.getElem?_cons_zero, List.getElem?_cons_succ, List.set_cons_zero, List.set_cons_succ, Nat.reduceAdd, Nat.reduceSub, Nat.zero_add, ne_eq, reduceCtorEq, not_false_eq_true, true_and, if_true, if_false, Bool.false_eq_true, decide_eq_true_eq, decide_true, decide_false, Bool.not_true, Bool.not_false, ite_true, ite_false, reduceIte, Option.some.injEq, exists_eq_left', List.drop_succ_cons, List.drop_zero, ↓y_wdv, ↓y_wdo, ↓y_wds0, ↓y_wds1, ↓y_okv, ↓y_oko, ↓y_addi, ↓y_adds, ↓y_addt, ↓y_addl, ↓y_muli, ↓y_mull, ↓y_eqi, ↓y_eqs, ↓y_nei, ↓y_nes, ↓y_eqt, ↓y_eql, ↓y_lti, ↓y_fi, ↓y_fi0, ↓y_isb, ↓y_ixt, ↓y_ixl, ↓y_lent, ↓y_lenl, ↓y_int, ↓y_tupl, ↓y_tupt, ↓y_lstt, ↓y_lstl, ↓y_slt, ↓y_sll, ↓y_repr, ↓y_at0, ↓y_at1, ↓y_at2, ↓y_at3, ↓y_at4, ↓y_st1, ↓y_st2, ↓y_st3, ↓y_st4, ↓y_exd, atI_0, atI_1, atI_2, atI_3, atI_4, cut_drop1]
          refine ⟨z, .int n, rfl, by rw [e]; rfl, ?_⟩
          simp only [dSeq, dRet, dRetN, dNext, dAndV, dOrV, dNotV, dIsi, dVar, dC, dUn, dOp, dCB, dCons, dNil, dTup, dLst, dTest, dAnd, dOr, dNot, dIf, dIfS, dAsg, dPar, dDrop, dAug, dAsgT, dgName, dgNil, dgCons, dgTup, dCall, dCallX, fInT, fIxT, dSl, dPart, dNoPart, dLenV, dIxV, dSlV, dApp, dExt, dPop, dSetIx, ownQ, putO, dYes, dSeqI, dEnum, dRng1, wipeG, startG, List.map_cons, List.map_nil, List.length_cons, List.length_nil, List.replicate, List.cons_append, List.nil_append, List.getElem?_cons_zero, List.getElem?_cons_succ, List.set_cons_zero, List.set_cons_succ, Nat.reduceAdd, Nat.reduceSub, Nat.zero_add, ne_eq, reduceCtorEq, not_false_eq_true, true_and, if_true, if_false, Bool.false_eq_true, decide_eq_true_eq, decide_true, decide_false, Bool.not_true, Bool.not_false, ite_true, ite_false, reduceIte, Option.some.injEq, exists_eq_left', List.drop_succ_cons, List.drop_zero, ↓y_wdv, ↓y_wdo, ↓y_wds0, ↓y_wds1, ↓y_okv, ↓y_oko, ↓y_addi, ↓y_adds, ↓y_addt, ↓y_addl, ↓y_muli, ↓y_mull, ↓y_eqi, ↓y_eqs, ↓y_nei, ↓y_nes, ↓y_eqt, ↓y_eql, ↓y_lti, ↓y_fi, ↓y_fi0, ↓y_isb, ↓y_ixt, ↓y_ixl, ↓y_lent, ↓y_lenl, ↓y_int, ↓y_tupl, ↓y_tupt, ↓y_lstt, ↓y_lstl, ↓y_slt, ↓y_sll, ↓y_repr, ↓y_at0, ↓y_at1, ↓y_at2, ↓y_at3, ↓y_at4, ↓y_st1, ↓y_st2, ↓y_st3, ↓y_st4, ↓y_exd, atI_0, atI_1, atI_2, atI_3, atI_4, cut_drop1]
          have q : hasForm (.tuple (.str z :: ps)) = decide (((ps.length + 1 : Nat) : Int) = 1 + n) := by
            simp only [hasForm, e]
            refine decide_eq_decide.mpr ?_
            omega
          rw [q] at h
          exact h
      | _ => exact h
  | _ => simp only [db_has_form, isT_tuple, dSeq, dRet, dRetN, dNext, dAndV, dOrV, dNotV, dIsi, dVar, dC, dUn, dOp, dCB, dCons, dNil, dTup, dLst, dTest, dAnd, dOr, dNot, dIf, dIfS, dAsg, dPar, dDrop, dAug, dAsgT, dgName, dgNil, dgCons, dgTup, dCall, dCallX, fInT, fIxT, dSl, dPart, dNoPart, dLenV, dIxV, dSlV, dApp, dExt, dPop, dSetIx, ownQ, putO, dYes, dSeqI, dEnum, dRng1, wipeG, startG, List.map_cons, List.map_nil, List.length_cons, List.length_nil, List.replicate, List.cons_append, List.nil_append, List.getElem?_cons_zero, List.getElem?_cons_succ, List.set_cons_zero, List.set_cons_succ, Nat.reduceAdd, Nat.reduceSub, Nat.zero_add, ne_eq, reduceCtorEq, not_false_eq_true, true_and, if_true, if_false, Bool.false_eq_true, decide_eq_true_eq, decide_true, decide_false, Bool.not_true, Bool.not_false, ite_true, ite_false, reduceIte, Option.some.injEq, exists_eq_left', List.drop_succ_cons, List.drop_zero, ↓y_wdv, ↓y_wdo, ↓y_wds0, ↓y_wds1, ↓y_okv, ↓y_oko, ↓y_addi, ↓y_adds, ↓y_addt, ↓y_addl, ↓y_muli, ↓y_mull, ↓y_eqi, ↓y_eqs, ↓y_nei, ↓y_nes, ↓y_eqt, ↓y_eql, ↓y_lti, ↓y_fi, ↓y_fi0, ↓y_isb, ↓y_ixt, ↓y_ixl, ↓y_lent, ↓y_lenl, ↓y_int, ↓y_tupl, ↓y_tupt, ↓y_lstt, ↓y_lstl, ↓y_slt, ↓y_sll, ↓y_repr, ↓y_at0, ↓y_at1, ↓y_at2, ↓y_at3, ↓y_at4, ↓y_st1, ↓y_st2, ↓y_st3, ↓y_st4, ↓y_exd, atI_0, atI_1, atI_2, atI_3, atI_4, cut_drop1]; exact h
end K00

namespace K00
open PySem PySem.Spec PyProof.Rows L2 LamX DL
def db_is_tree (sp_has_form : SpP)  : DS := (dSeq (dPar 1 2 (dCons (dC (.int 0)) (dCons (dLst (dCons (dTup (dCons (dVar 0) (dCons (dC (.int 1)) dNil))) dNil)) dNil)))
    (dSeq (dWhile (dTest (dOp (fI0 fun i j => .bool (decide (j < i))) (dLenV 2) (dC (.int 0))))
    (dSeq (dAsgT (dgTup 2 (dgCons (dgName 3) (dgCons (dgName 4) dgNil))) (dPop 2))
    (dSeq (dAug 1 (fI0 fun i j => .int (i + j)) (dC (.int 1)))
    (dSeq (dIfS (dOr (dTest (dOp (fI0 fun i j => .bool (decide (j < i))) (dVar 1) (dC (.int 300)))) (dOr (dTest (dOp (fI0 fun i j => .bool (decide (j < i))) (dVar 4) (dC (.int 40)))) (dNot (dTest (dCall sp_has_form (dCons (dVar 3) dNil))))))
    (dRet (dC (.bool false)))
    dNext)
    (dDrop (dExt 2 (dLc (dSeqI (dSl (dVar 3) (dPart (dC (.int 1))) dNoPart)) (dgName 5) dYes (dTup (dCons (dVar 5) (dCons (dOp fAdd (dVar 4) (dC (.int 1))) dNil))) [5])))))))
    (dRet (dC (.bool true)))))
theorem c_is_tree {P : Program} {w : World} {K : PySem.W.Frag} {mg : Str → Option Value} {base : Heap} {T : List (Addr × Str)} {k : Nat} {sp_has_form : SpP} {sp : SpP} (D : DefAt K mg "is_tree" s_is_tree ["thing"]) (B : Bi mg builtL) (F_has_form : Cal P w K mg base CX0 k "has_form" (liftP K T sp_has_form)) (I_MOST_NODES : ∃ t, mg "MOST_NODES" = some (.int 300 t)) (I_MOST_DEEP : ∃ t, mg "MOST_DEEP" = some (.int 40 t)) (hlen : ∀ as Q R, sp as Q R → as.length = 1) (law : ∀ as Q0 R0, sp as Q0 R0 → db_is_tree sp_has_form  { nx := fun _ => Q0 (.val .none), rt := fun g _ => g ≠ .unk ∧ Q0 g } (startG 6 as)) :
    Cal P w K mg base CX0 (k + 1) "is_tree" (liftP K T sp) := by
  obtain ⟨t_MOST_NODES, m_MOST_NODES⟩ := I_MOST_NODES
  obtain ⟨t_MOST_DEEP, m_MOST_DEEP⟩ := I_MOST_DEEP
  have sc := sc_is_tree
  have hj : k ≤ k := by omega
  exact D.mkP sc _ hlen (fun f cdv A outer s H E hr as Q0 R0 h => ⟨_, _, (by exact (ss_cons (s_par 1 2 rfl sc.nd (as_cons (e_int) (as_cons (e_lst (as_cons (e_tup (as_cons (e_var 0) (as_cons (e_int) as_nil))) as_nil)) as_nil)))
    (ss_cons (s_while PassesOwn.never (t_cmp c_gt (k_lenV K 2 (B "len" (by decide))) (e_int)) (ss_cons (s_asgT (k_tup K (gs_cons (g_name 3 sc.nd) (gs_cons (g_name 4 sc.nd) gs_nil))) (k_pop K 2))
    (ss_cons (s_augA 1 sc.nd (e_int))
    (ss_cons (s_if (t_bool (w_or (t_cmp c_gt (e_var 1) (e_kint (by rfl) m_MOST_NODES)) (w_or (t_cmp c_gt (e_var 4) (e_kint (by rfl) m_MOST_DEEP)) (w_or1 (t_not (t_val (k_c F_has_form hr (as_cons (e_var 3) as_nil) hj))))))) (ss_one (s_ret (e_bl))) ss_nil)
    (ss_one (s_expr (k_ext K 2 (e_lc rfl sc.nd (k_seq K (k_sl K (e_var 3) (o_some (e_int)) o_none)) (own := [("part", 5)]) (blkOk_by rfl) (tgin_name (by decide)) (fun _ _ _ _ _ => (g_name 5 sc.nd)) (fun _ _ _ _ _ => ts_nil) (fun _ _ _ _ _ => (e_tup (as_cons (e_var 5) (as_cons (e_bin (k_add K) (e_var 4) (e_int)) as_nil))))))))))))
    (ss_one (s_ret (e_bl)))))), law as Q0 R0 h⟩)
theorem goT_cons (n : Nat) (x : PyData × Int) (r : List (PyData × Int)) : goT (n + 1) (x :: r) = if 40 < x.2 then false else if hasForm x.1 = true then goT n (((parts x.1).map fun p => (p, x.2 + 1)).reverse ++ r) else false := rfl
theorem rank_le {z : Str} {n : Int} (h : rank z = some n) : 0 ≤ n ∧ n ≤ 3 := by
  have key : ∀ (l : List (Str × Int)), (∀ q ∈ l, 0 ≤ q.2 ∧ q.2 ≤ 3) → l.lookup z = some n → 0 ≤ n ∧ n ≤ 3 := by
    intro l
    induction l with
    | nil => intro _ e; cases e
    | cons q r ih =>
      intro hq e
      rw [List.lookup_cons] at e
      cases c : z == q.1 with
      | true => rw [c] at e; cases e; exact hq q List.mem_cons_self
      | false => rw [c] at e; exact ih (fun y hy => hq y (List.mem_cons_of_mem _ hy)) e
  exact key rkL (by decide) h
theorem hasForm_parts {d : PyData} (h : hasForm d = true) : ∃ z ps, d = .tuple (.str z :: ps) ∧ rank z = some (ps.length : Int) ∧ ps.length ≤ 3 := by
  cases d with
  | tuple l =>
    cases l with
    | nil => cases h
    | cons x ps =>
      cases x with
      | str z =>
        cases e : rank z with
        | none => simp only [hasForm, e] at h; cases h
        | some n =>
          simp only [hasForm, e] at h
          have q : (ps.length : Int) = n := of_decide_eq_true h
          refine ⟨z, ps, rfl, by rw [e, ← q], ?_⟩
          have := (rank_le e).2
          omega
      | _ => cases h
  | _ => cases h
def stkD (q : PyData × Int) : PyData := .tuple [q.1, .int q.2]
theorem small {n : Nat} (h : n ≤ 2000) : n ≤ sizeLine := by rw [sizeLine_eq]; omega
theorem l_is_tree : ∀ as Q0 R0, spIsTree as Q0 R0 → db_is_tree spHasForm { nx := fun _ => Q0 (.val .none), rt := fun g _ => g ≠ .unk ∧ Q0 g } (startG 6 as) := by
  rintro _ Q0 R0 ⟨d, rfl, h⟩
  simp only [db_is_tree, dSeq, dRet, dRetN, dNext, dAndV, dOrV, dNotV, dIsi, dVar, dC, dUn, dOp, dCB, dCons, dNil, dTup, dLst, dTest, dAnd, dOr, dNot, dIf, dIfS, dAsg, dPar, dDrop, dAug, dAsgT, dgName, dgNil, dgCons, dgTup, dCall, dCallX, fInT, fIxT, dSl, dPart, dNoPart, dLenV, dIxV, dSlV, dApp, dExt, dPop, dSetIx, ownQ, putO, dYes, dSeqI, dEnum, dRng1, wipeG, startG, List.map_cons, List.map_nil, List.length_cons, List.length_nil, List.replicate, List.cons_append, List.nil_append, List.getElem?_cons_zero, List.getElem?_cons_succ, List.set_cons_zero, List.set_cons_succ, Nat.reduceAdd, Nat.reduceSub, Nat.zero_add, ne_eq, reduceCtorEq, not_false_eq_true, true_and, if_true, if_false, Bool.false_eq_true, decide_eq_true_eq, decide_true, decide_false, Bool.not_true, Bool.not_false, ite_true, ite_false, reduceIte, Option.some.injEq, exists_eq_left', List.drop_succ_cons, List.drop_zero, ↓y_wdv, ↓y_wdo, ↓y_wds0, ↓y_wds1, ↓y_okv, ↓y_oko, ↓y_addi, ↓y_adds, ↓y_addt, ↓y_addl, ↓y_muli, ↓y_mull, ↓y_eqi, ↓y_eqs, ↓y_nei, ↓y_nes, ↓y_eqt, ↓y_eql, ↓y_lti, ↓y_fi, ↓y_fi0, ↓y_isb, ↓y_ixt, ↓y_ixl, ↓y_lent, ↓y_lenl, ↓y_int, ↓y_tupl, ↓y_tupt, ↓y_lstt, ↓y_lstl, ↓y_slt, ↓y_sll, ↓y_repr, ↓y_at0, ↓y_at1, ↓y_at2, ↓y_at3, ↓y_at4, ↓y_st1, ↓y_st2, ↓y_st3, ↓y_st4, ↓y_exd, atI_0, atI_1, atI_2, atI_3, atI_4, cut_drop1]
  refine ⟨small (by omega), small (by omega), ?_⟩
  refine ⟨fun Γ => ∃ (m : Nat) (st : List (PyData × Int)) (g3 g4 : G), Γ = [.val d, .val (.int m), .own false (st.reverse.map stkD), g3, g4, .unk] ∧ m ≤ 300 ∧ st.length ≤ 1 + 3 * m ∧ goT (300 - m) st = isTree d,
    fun Γ : Gs => match Γ[1]? with
      | some (G.val (PyData.int m)) => (400 - m).toNat
      | _ => 0, ⟨0, [(d, 1)], .unk, .unk, rfl, by omega, by simp, rfl⟩, ?_⟩
  rintro Γ ⟨m, st, g3, g4, rfl, hm, hl, hg⟩
  simp only [dSeq, dRet, dRetN, dNext, dAndV, dOrV, dNotV, dIsi, dVar, dC, dUn, dOp, dCB, dCons, dNil, dTup, dLst, dTest, dAnd, dOr, dNot, dIf, dIfS, dAsg, dPar, dDrop, dAug, dAsgT, dgName, dgNil, dgCons, dgTup, dCall, dCallX, fInT, fIxT, dSl, dPart, dNoPart, dLenV, dIxV, dSlV, dApp, dExt, dPop, dSetIx, ownQ, putO, dYes, dSeqI, dEnum, dRng1, wipeG, startG, List.map_cons, List.map_nil, List.length_cons, List.length_nil, List.replicate, List.cons_append, List.nil_append, List.getElem?_cons_zero, List.getElem?_cons_succ, List.set_cons_zero, List.set_cons_succ, Nat.reduceAdd, Nat.reduceSub, Nat.zero_add, ne_eq, reduceCtorEq, not_false_eq_true, true_and, if_true, if_false, Bool.false_eq_true, decide_eq_true_eq, decide_true, decide_false, Bool.not_true, Bool.not_false, ite_true, ite_false, reduceIte, Option.some.injEq, exists_eq_left', List.drop_succ_cons, List.drop_zero, ↓y_wdv, ↓y_wdo, ↓y_wds0, ↓y_wds1, ↓y_okv, ↓y_oko, ↓y_addi, ↓y_adds, ↓y_addt, ↓y_addl, ↓y_muli, ↓y_mull, ↓y_eqi, ↓y_eqs, ↓y_nei, ↓y_nes, ↓y_eqt, ↓y_eql, ↓y_lti, ↓y_fi, ↓y_fi0, ↓y_isb, ↓y_ixt, ↓y_ixl, ↓y_lent, ↓y_lenl, ↓y_int, ↓y_tupl, ↓y_tupt, ↓y_lstt, ↓y_lstl, ↓y_slt, ↓y_sll, ↓y_repr, ↓y_at0, ↓y_at1, ↓y_at2, ↓y_at3, ↓y_at4, ↓y_st1, ↓y_st2, ↓y_st3, ↓y_st4, ↓y_exd, atI_0, atI_1, atI_2, atI_3, atI_4, cut_drop1]
  cases st with
  | nil =>
    rw [if_neg (by simp)]
    have e : isTree d = true := by rw [← hg]; cases (300 - m) <;> rfl
    rw [e] at h
    exact h
  | cons x r =>
    obtain ⟨x, k⟩ := x
    rw [if_pos (by simp)]
    have eL : (((x, k) :: r).reverse.map stkD) = r.reverse.map stkD ++ [stkD (x, k)] := by simp
    rw [eL]
    refine ⟨stkD (x, k), last_snoc, ?_⟩
    rw [List.dropLast_concat]
    simp only [stkD, dSeq, dRet, dRetN, dNext, dAndV, dOrV, dNotV, dIsi, dVar, dC, dUn, dOp, dCB, dCons, dNil, dTup, dLst, dTest, dAnd, dOr, dNot, dIf, dIfS, dAsg, dPar, dDrop, dAug, dAsgT, dgName, dgNil, dgCons, dgTup, dCall, dCallX, fInT, fIxT, dSl, dPart, dNoPart, dLenV, dIxV, dSlV, dApp, dExt, dPop, dSetIx, ownQ, putO, dYes, dSeqI, dEnum, dRng1, wipeG, startG, List.map_cons, List.map_nil, List.length_cons, List.length_nil, List.replicate, List.cons_append, List.nil_append, List.getElem?_cons_zero, List.getElem?_cons_succ, List.set_cons_zero, List.set_cons_succ, Nat.reduceAdd, Nat.reduceSub, Nat.zero_add, ne_eq, reduceCtorEq, not_false_eq_true, true_and, if_true, if_false, Bool.false_eq_true, decide_eq_true_eq, decide_true, decide_false, Bool.not_true, Bool.not_false, ite_true, ite_false, reduceIte, Option.some.injEq, exists_eq_left', List.drop_succ_cons, List.drop_zero, ↓y_wdv, ↓y_wdo, ↓y_wds0, ↓y_wds1, ↓y_okv, ↓y_oko, ↓y_addi, ↓y_adds, ↓y_addt, ↓y_addl, ↓y_muli, ↓y_mull, ↓y_eqi, ↓y_eqs, ↓y_nei, ↓y_nes, ↓y_eqt, ↓y_eql, ↓y_lti, ↓y_fi, ↓y_fi0, ↓y_isb, ↓y_ixt, ↓y_ixl, ↓y_lent, ↓y_lenl, ↓y_int, ↓y_tupl, ↓y_tupt, ↓y_lstt, ↓y_lstl, ↓y_slt, ↓y_sll, ↓y_repr, ↓y_at0, ↓y_at1, ↓y_at2, ↓y_at3, ↓y_at4, ↓y_st1, ↓y_st2, ↓y_st3, ↓y_st4, ↓y_exd, atI_0, atI_1, atI_2, atI_3, atI_4, cut_drop1]
    by_cases h1 : m = 300
    · subst h1
      rw [if_pos (by simp)]
      have e : isTree d = false := by rw [← hg]; rfl
      rw [e] at h
      exact h
    · obtain ⟨n, en⟩ : ∃ n, 300 - m = n + 1 := ⟨299 - m, by omega⟩
      rw [en, goT_cons] at hg
      rw [if_neg (by omega)]
      by_cases h2 : 40 < k
      · rw [if_pos h2] at hg
        rw [if_pos h2]
        rw [← hg] at h
        exact h
      · rw [if_neg h2] at hg
        rw [if_neg h2]
        refine ⟨x, rfl, ?_⟩
        cases h3 : hasForm x with
        | false =>
          rw [h3] at hg
          rw [← hg] at h
          exact h
        | true =>
          rw [h3, if_pos rfl] at hg
          obtain ⟨z, ps, rfl, _, h4⟩ := hasForm_parts h3
          simp only [dSeq, dRet, dRetN, dNext, dAndV, dOrV, dNotV, dIsi, dVar, dC, dUn, dOp, dCB, dCons, dNil, dTup, dLst, dTest, dAnd, dOr, dNot, dIf, dIfS, dAsg, dPar, dDrop, dAug, dAsgT, dgName, dgNil, dgCons, dgTup, dCall, dCallX, fInT, fIxT, dSl, dPart, dNoPart, dLenV, dIxV, dSlV, dApp, dExt, dPop, dSetIx, ownQ, putO, dYes, dSeqI, dEnum, dRng1, wipeG, startG, List.map_cons, List.map_nil, List.length_cons, List.length_nil, List.replicate, List.cons_append, List.nil_append, List.getElem?_cons_zero, List.getElem?_cons_succ, List.set_cons_zero, List.set_cons_succ, Nat.reduceAdd, Nat.reduceSub, Nat.zero_add, ne_eq, reduceCtorEq, not_false_eq_true, true_and, if_true, if_false, Bool.false_eq_true, decide_eq_true_eq, decide_true, decide_false, Bool.not_true, Bool.not_false, ite_true, ite_false, reduceIte, Option.some.injEq, exists_eq_left', List.drop_succ_cons, List.drop_zero, ↓y_wdv, ↓y_wdo, ↓y_wds0, ↓y_wds1, ↓y_okv, ↓y_oko, ↓y_addi, ↓y_adds, ↓y_addt, ↓y_addl, ↓y_muli, ↓y_mull, ↓y_eqi, ↓y_eqs, ↓y_nei, ↓y_nes, ↓y_eqt, ↓y_eql, ↓y_lti, ↓y_fi, ↓y_fi0, ↓y_isb, ↓y_ixt, ↓y_ixl, ↓y_lent, ↓y_lenl, ↓y_int, ↓y_tupl, ↓y_tupt, ↓y_lstt, ↓y_lstl, ↓y_slt, ↓y_sll, ↓y_repr, ↓y_at0, ↓y_at1, ↓y_at2, ↓y_at3, ↓y_at4, ↓y_st1, ↓y_st2, ↓y_st3, ↓y_st4, ↓y_exd, atI_0, atI_1, atI_2, atI_3, atI_4, cut_drop1]
          refine lc_map (items := ps) (f := fun p => .tuple [p, .int (k + 1)]) (fun Q' hq => ?_) rfl (small (by omega)) (fun p hp Q' hq => ?_) ?_
          · simp only [dSeq, dRet, dRetN, dNext, dAndV, dOrV, dNotV, dIsi, dVar, dC, dUn, dOp, dCB, dCons, dNil, dTup, dLst, dTest, dAnd, dOr, dNot, dIf, dIfS, dAsg, dPar, dDrop, dAug, dAsgT, dgName, dgNil, dgCons, dgTup, dCall, dCallX, fInT, fIxT, dSl, dPart, dNoPart, dLenV, dIxV, dSlV, dApp, dExt, dPop, dSetIx, ownQ, putO, dYes, dSeqI, dEnum, dRng1, wipeG, startG, List.map_cons, List.map_nil, List.length_cons, List.length_nil, List.replicate, List.cons_append, List.nil_append, List.getElem?_cons_zero, List.getElem?_cons_succ, List.set_cons_zero, List.set_cons_succ, Nat.reduceAdd, Nat.reduceSub, Nat.zero_add, ne_eq, reduceCtorEq, not_false_eq_true, true_and, if_true, if_false, Bool.false_eq_true, decide_eq_true_eq, decide_true, decide_false, Bool.not_true, Bool.not_false, ite_true, ite_false, reduceIte, Option.some.injEq, exists_eq_left', List.drop_succ_cons, List.drop_zero, ↓y_wdv, ↓y_wdo, ↓y_wds0, ↓y_wds1, ↓y_okv, ↓y_oko, ↓y_addi, ↓y_adds, ↓y_addt, ↓y_addl, ↓y_muli, ↓y_mull, ↓y_eqi, ↓y_eqs, ↓y_nei, ↓y_nes, ↓y_eqt, ↓y_eql, ↓y_lti, ↓y_fi, ↓y_fi0, ↓y_isb, ↓y_ixt, ↓y_ixl, ↓y_lent, ↓y_lenl, ↓y_int, ↓y_tupl, ↓y_tupt, ↓y_lstt, ↓y_lstl, ↓y_slt, ↓y_sll, ↓y_repr, ↓y_at0, ↓y_at1, ↓y_at2, ↓y_at3, ↓y_at4, ↓y_st1, ↓y_st2, ↓y_st3, ↓y_st4, ↓y_exd, atI_0, atI_1, atI_2, atI_3, atI_4, cut_drop1]
            exact hq
          · simp only [dSeq, dRet, dRetN, dNext, dAndV, dOrV, dNotV, dIsi, dVar, dC, dUn, dOp, dCB, dCons, dNil, dTup, dLst, dTest, dAnd, dOr, dNot, dIf, dIfS, dAsg, dPar, dDrop, dAug, dAsgT, dgName, dgNil, dgCons, dgTup, dCall, dCallX, fInT, fIxT, dSl, dPart, dNoPart, dLenV, dIxV, dSlV, dApp, dExt, dPop, dSetIx, ownQ, putO, dYes, dSeqI, dEnum, dRng1, wipeG, startG, List.map_cons, List.map_nil, List.length_cons, List.length_nil, List.replicate, List.cons_append, List.nil_append, List.getElem?_cons_zero, List.getElem?_cons_succ, List.set_cons_zero, List.set_cons_succ, Nat.reduceAdd, Nat.reduceSub, Nat.zero_add, ne_eq, reduceCtorEq, not_false_eq_true, true_and, if_true, if_false, Bool.false_eq_true, decide_eq_true_eq, decide_true, decide_false, Bool.not_true, Bool.not_false, ite_true, ite_false, reduceIte, Option.some.injEq, exists_eq_left', List.drop_succ_cons, List.drop_zero, ↓y_wdv, ↓y_wdo, ↓y_wds0, ↓y_wds1, ↓y_okv, ↓y_oko, ↓y_addi, ↓y_adds, ↓y_addt, ↓y_addl, ↓y_muli, ↓y_mull, ↓y_eqi, ↓y_eqs, ↓y_nei, ↓y_nes, ↓y_eqt, ↓y_eql, ↓y_lti, ↓y_fi, ↓y_fi0, ↓y_isb, ↓y_ixt, ↓y_ixl, ↓y_lent, ↓y_lenl, ↓y_int, ↓y_tupl, ↓y_tupt, ↓y_lstt, ↓y_lstl, ↓y_slt, ↓y_sll, ↓y_repr, ↓y_at0, ↓y_at1, ↓y_at2, ↓y_at3, ↓y_at4, ↓y_st1, ↓y_st2, ↓y_st3, ↓y_st4, ↓y_exd, atI_0, atI_1, atI_2, atI_3, atI_4, cut_drop1]
            exact ⟨small (by omega), hq _ (by rfl)⟩
          · simp only [dSeq, dRet, dRetN, dNext, dAndV, dOrV, dNotV, dIsi, dVar, dC, dUn, dOp, dCB, dCons, dNil, dTup, dLst, dTest, dAnd, dOr, dNot, dIf, dIfS, dAsg, dPar, dDrop, dAug, dAsgT, dgName, dgNil, dgCons, dgTup, dCall, dCallX, fInT, fIxT, dSl, dPart, dNoPart, dLenV, dIxV, dSlV, dApp, dExt, dPop, dSetIx, ownQ, putO, dYes, dSeqI, dEnum, dRng1, wipeG, startG, List.map_cons, List.map_nil, List.length_cons, List.length_nil, List.replicate, List.cons_append, List.nil_append, List.getElem?_cons_zero, List.getElem?_cons_succ, List.set_cons_zero, List.set_cons_succ, Nat.reduceAdd, Nat.reduceSub, Nat.zero_add, ne_eq, reduceCtorEq, not_false_eq_true, true_and, if_true, if_false, Bool.false_eq_true, decide_eq_true_eq, decide_true, decide_false, Bool.not_true, Bool.not_false, ite_true, ite_false, reduceIte, Option.some.injEq, exists_eq_left', List.drop_succ_cons, List.drop_zero, ↓y_wdv, ↓y_wdo, ↓y_wds0, ↓y_wds1, ↓y_okv, ↓y_oko, ↓y_addi, ↓y_adds, ↓y_addt, ↓y_addl, ↓y_muli, ↓y_mull, ↓y_eqi, ↓y_eqs, ↓y_nei, ↓y_nes, ↓y_eqt, ↓y_eql, ↓y_lti, ↓y_fi, ↓y_fi0, ↓y_isb, ↓y_ixt, ↓y_ixl, ↓y_lent, ↓y_lenl, ↓y_int, ↓y_tupl, ↓y_tupt, ↓y_lstt, ↓y_lstl, ↓y_slt, ↓y_sll, ↓y_repr, ↓y_at0, ↓y_at1, ↓y_at2, ↓y_at3, ↓y_at4, ↓y_st1, ↓y_st2, ↓y_st3, ↓y_st4, ↓y_exd, atI_0, atI_1, atI_2, atI_3, atI_4, cut_drop1]
            refine ⟨small ?_, ⟨m + 1, ((ps.map fun p => (p, k + 1)).reverse ++ r), .val (.tuple (.str z :: ps)), .val (.int k), ?_, by omega, ?_, ?_⟩, ?_⟩
            · simp only [List.length_cons, List.length_append, List.length_reverse, List.length_map] at hl ⊢
              omega
            · have e1 : ((ps.map fun p => (p, k + 1)).reverse ++ r).reverse.map stkD = r.reverse.map stkD ++ ps.map fun p => .tuple [p, .int (k + 1)] := by
                rw [List.reverse_append, List.reverse_reverse, List.map_append, List.map_map]
                rfl
              rw [e1]
              rfl
            · simp only [List.length_cons, List.length_append, List.length_reverse, List.length_map] at hl ⊢
              omega
            · rw [show 300 - (m + 1) = n by omega]; exact hg
            · omega
end K00

namespace K00
open PySem PySem.Spec PyProof.Rows L2 LamX DL
/-! ### trees: plain facts -/
theorem IsTr.inv {d : PyData} (h : IsTr d) : ∃ z ps, d = .tuple (.str z :: ps) ∧ rank z = some (ps.length : Int) ∧ (∀ p ∈ ps, IsTr p) ∧ ps.length ≤ 3 := by
  cases h with
  | mk h1 h2 => exact ⟨_, _, rfl, h1, h2, by have := (rank_le h1).2; omega⟩
theorem IsTr.form {d : PyData} (h : IsTr d) : hasForm d = true := by
  obtain ⟨z, ps, rfl, h1, _, _⟩ := h.inv
  simp [hasForm, h1]
theorem nds_eq : ∀ ps : List PyData, nds ps = (ps.map nd).sum
  | [] => rfl
  | p :: r => by simp [nds, nds_eq r]
theorem dps_le {n : Nat} : ∀ {ps : List PyData}, dps ps ≤ n ↔ ∀ p ∈ ps, dp p ≤ n
  | [] => by simp [dps]
  | p :: r => by simp [dps, Nat.max_le, dps_le (ps := r)]
theorem nd_pos (d : PyData) : 1 ≤ nd d := by unfold nd; split <;> omega
theorem dp_pos (d : PyData) : 1 ≤ dp d := by unfold dp; split <;> omega
theorem nd_node {x : PyData} {ps : List PyData} : nd (.tuple (x :: ps)) = 1 + nds ps := by rw [nd]
theorem dp_node {x : PyData} {ps : List PyData} : dp (.tuple (x :: ps)) = 1 + dps ps := by rw [dp]
mutual
theorem dp_le_nd : ∀ d : PyData, dp d ≤ nd d
  | .tuple (x :: ps) => by rw [dp, nd]; have := dps_le_nds ps; omega
  | .tuple [] => Nat.le_refl _
  | .none => Nat.le_refl _
  | .bool _ => Nat.le_refl _
  | .int _ => Nat.le_refl _
  | .str _ => Nat.le_refl _
  | .list _ => Nat.le_refl _
  | .dict _ => Nat.le_refl _
theorem dps_le_nds : ∀ ps : List PyData, dps ps ≤ nds ps
  | [] => Nat.le_refl _
  | p :: r => by rw [dps, nds]; have := dp_le_nd p; have := dps_le_nds r; omega
end
def sumN (st : List (PyData × Int)) : Nat := (st.map fun x => nd x.1).sum
theorem goT_iff : ∀ (n : Nat) (st : List (PyData × Int)), goT n st = true ↔ (∀ x ∈ st, IsTr x.1 ∧ x.2 + dp x.1 ≤ 41) ∧ sumN st ≤ n
  | n, [] => by
    constructor
    · intro _; exact ⟨(fun x hx => nomatch hx), Nat.zero_le _⟩
    · intro _; cases n <;> rfl
  | 0, x :: r => by
    constructor
    · intro h; cases h
    · rintro ⟨_, h⟩
      have := nd_pos x.1
      simp [sumN] at h
      omega
  | n + 1, (x, k) :: r => by
    rw [goT_cons]
    have px := dp_pos x
    by_cases h1 : 40 < k
    · rw [if_pos h1]
      constructor
      · intro h; cases h
      · rintro ⟨h, _⟩
        have := (h (x, k) List.mem_cons_self).2
        simp at this
        omega
    · rw [if_neg h1]
      by_cases h2 : hasForm x = true
      · rw [if_pos h2, goT_iff n]
        obtain ⟨z, ps, rfl, hr, _⟩ := hasForm_parts h2
        have es : sumN ((List.map (fun p => (p, k + 1)) (parts (.tuple (.str z :: ps)))).reverse ++ r) = nds ps + sumN r := by
          simp only [sumN, parts, List.map_append, List.sum_append, List.map_reverse, List.map_map, nds_eq, List.sum_reverse]
          rfl
        have es2 : sumN ((.tuple (.str z :: ps), k) :: r) = 1 + nds ps + sumN r := by simp [sumN, nd_node]
        rw [es, es2]
        constructor
        · rintro ⟨h3, h4⟩
          have hp : ∀ p ∈ ps, IsTr p ∧ k + 1 + dp p ≤ 41 := fun p hp => h3 (p, k + 1) (List.mem_append_left _ (List.mem_reverse.mpr (List.mem_map.mpr ⟨p, hp, rfl⟩)))
          refine ⟨fun y hy => ?_, by omega⟩
          rcases List.mem_cons.mp hy with rfl | hy
          · refine ⟨.mk hr fun p h => (hp p h).1, ?_⟩
            have : dps ps ≤ (40 - k).toNat := dps_le.mpr fun p h => by have := (hp p h).2; omega
            simp only [dp_node]
            omega
          · exact h3 y (List.mem_append_right _ hy)
        · rintro ⟨h3, h4⟩
          obtain ⟨ht, hd⟩ := h3 _ List.mem_cons_self
          simp only [dp_node] at hd
          refine ⟨fun y hy => ?_, by omega⟩
          rcases List.mem_append.mp hy with hy | hy
          · obtain ⟨p, hp, rfl⟩ := List.mem_map.mp (List.mem_reverse.mp hy)
            have hp : p ∈ ps := hp
            have : dp p ≤ dps ps := dps_le.mp (Nat.le_refl _) p hp
            refine ⟨?_, by simp only []; omega⟩
            cases ht with
            | mk _ h => exact h p hp
          · exact h3 y (List.mem_cons_of_mem _ hy)
      · rw [if_neg h2]
        constructor
        · intro h; cases h
        · rintro ⟨h, _⟩
          exact absurd (h (x, k) List.mem_cons_self).1.form h2
theorem isTree_iff {d : PyData} : isTree d = true ↔ IsTr d ∧ dp d ≤ 40 ∧ nd d ≤ 300 := by
  unfold isTree
  rw [goT_iff]
  constructor
  · rintro ⟨h, h2⟩
    obtain ⟨h3, h4⟩ := h _ List.mem_cons_self
    exact ⟨h3, by simp only [] at h4; omega, by simpa [sumN] using h2⟩
  · rintro ⟨h1, h2, h3⟩
    refine ⟨fun x hx => ?_, by simpa [sumN] using h3⟩
    cases List.mem_singleton.mp hx
    exact ⟨h1, by simp only []; omega⟩
theorem isTree_false {d : PyData} (h : ¬ (IsTr d ∧ dp d ≤ 40 ∧ nd d ≤ 300)) : isTree d = false := by
  cases e : isTree d with
  | false => rfl
  | true => exact absurd (isTree_iff.mp e) h
/-! ### the rows -/
def ixs (q : List Int) : Nat → List PyData → List (List Int × PyData)
  | _, [] => []
  | k, p :: r => (q ++ [(k : Int)], p) :: ixs q (k + 1) r
theorem pres_eq (q : List Int) : ∀ (ps : List PyData) (k : Nat), pres q k ps = (ixs q k ps).flatMap fun r => pre r.1 r.2
  | [], _ => by simp [pres, ixs]
  | p :: r, k => by simp [pres, ixs, pres_eq q r (k + 1)]
theorem ixs_len (q : List Int) : ∀ (ps : List PyData) (k : Nat), (ixs q k ps).length = ps.length
  | [], _ => rfl
  | p :: r, k => by simp [ixs, ixs_len q r]
theorem ixs_mem {q : List Int} {x : List Int × PyData} : ∀ {ps : List PyData} {k : Nat}, x ∈ ixs q k ps → x.2 ∈ ps ∧ x.1.length = q.length + 1
  | [], _, h => nomatch h
  | p :: r, k, h => by
    rcases List.mem_cons.mp h with rfl | h
    · exact ⟨List.mem_cons_self, by simp⟩
    · obtain ⟨a, b⟩ := ixs_mem h
      exact ⟨List.mem_cons_of_mem _ a, b⟩
theorem pre_node {q : List Int} {x : PyData} {ps : List PyData} : pre q (.tuple (x :: ps)) = (q, .tuple (x :: ps)) :: pres q 0 ps := by rw [pre]
mutual
theorem pre_len (q : List Int) : ∀ d : PyData, (pre q d).length = nd d
  | .tuple (x :: ps) => by rw [pre, nd, List.length_cons, pres_len q ps 0]; omega
  | .tuple [] => rfl
  | .none => rfl
  | .bool _ => rfl
  | .int _ => rfl
  | .str _ => rfl
  | .list _ => rfl
  | .dict _ => rfl
theorem pres_len (q : List Int) : ∀ (ps : List PyData) (k : Nat), (pres q k ps).length = nds ps
  | [], _ => by rw [pres, nds]; rfl
  | p :: r, k => by rw [pres, nds, List.length_append, pre_len _ p, pres_len q r (k + 1)]
end
mutual
theorem pre_deep (q : List Int) : ∀ d : PyData, (∀ r ∈ pre q d, r.1.length + 1 ≤ q.length + dp d) ∧ ∃ r ∈ pre q d, r.1.length + 1 = q.length + dp d
  | .tuple (x :: ps) => by
    rw [pre, dp]
    obtain ⟨h1, h2⟩ := pres_deep q ps 0
    refine ⟨fun r hr => ?_, ?_⟩
    · rcases List.mem_cons.mp hr with rfl | hr
      · simp only []; omega
      · have := h1 r hr; omega
    · cases ps with
      | nil => exact ⟨_, List.mem_cons_self, by simp [dps]⟩
      | cons p ps =>
        obtain ⟨r, hr, e⟩ := h2 (by simp)
        exact ⟨r, List.mem_cons_of_mem _ hr, by omega⟩
  | .tuple [] => ⟨fun r hr => by cases List.mem_singleton.mp hr; exact Nat.le_refl _, _, List.mem_cons_self, rfl⟩
  | .none => ⟨fun r hr => by cases List.mem_singleton.mp hr; exact Nat.le_refl _, _, List.mem_cons_self, rfl⟩
  | .bool _ => ⟨fun r hr => by cases List.mem_singleton.mp hr; exact Nat.le_refl _, _, List.mem_cons_self, rfl⟩
  | .int _ => ⟨fun r hr => by cases List.mem_singleton.mp hr; exact Nat.le_refl _, _, List.mem_cons_self, rfl⟩
  | .str _ => ⟨fun r hr => by cases List.mem_singleton.mp hr; exact Nat.le_refl _, _, List.mem_cons_self, rfl⟩
  | .list _ => ⟨fun r hr => by cases List.mem_singleton.mp hr; exact Nat.le_refl _, _, List.mem_cons_self, rfl⟩
  | .dict _ => ⟨fun r hr => by cases List.mem_singleton.mp hr; exact Nat.le_refl _, _, List.mem_cons_self, rfl⟩
theorem pres_deep (q : List Int) : ∀ (ps : List PyData) (k : Nat), (∀ r ∈ pres q k ps, r.1.length ≤ q.length + dps ps) ∧ (ps ≠ [] → ∃ r ∈ pres q k ps, r.1.length = q.length + dps ps)
  | [], _ => by
    rw [pres]
    refine ⟨?_, ?_⟩
    · intro r hr; cases hr
    · intro h; exact absurd rfl h
  | p :: ps, k => by
    rw [pres, dps]
    obtain ⟨h1, r1, m1, e1⟩ := pre_deep (q ++ [(k : Int)]) p
    obtain ⟨h2, h3⟩ := pres_deep q ps (k + 1)
    simp only [List.length_append, List.length_singleton] at h1 e1
    refine ⟨fun r hr => ?_, fun _ => ?_⟩
    · rcases List.mem_append.mp hr with hr | hr
      · have := h1 r hr; omega
      · have := h2 r hr; omega
    · by_cases hc : dps ps ≤ dp p
      · exact ⟨r1, List.mem_append_left _ m1, by omega⟩
      · cases ps with
        | nil => simp [dps] at hc
        | cons p' ps' =>
          obtain ⟨r, hr, e⟩ := h3 (by simp)
          exact ⟨r, List.mem_append_right _ hr, by omega⟩
end
/-! ### the signs -/
def signOf : PyData → Str
  | .tuple (.str z :: _) => z
  | _ => Str.empty
def cat : List Str → Str
  | [] => Str.empty
  | z :: r => z ++ cat r
theorem cat_app : ∀ (a b : List Str), cat (a ++ b) = cat a ++ cat b
  | [], b => (Str.empty_append _).symm
  | z :: r, b => by
    show z ++ cat (r ++ b) = z ++ cat r ++ cat b
    rw [cat_app r b, Str.append_assoc]
theorem join_cat : ∀ l : List Str, Txt.join Str.empty l = cat l := by
  intro l
  rw [show Txt.join Str.empty l = Str.join Str.empty l from StrLaws.glued_eq_join _ _]
  induction l with
  | nil => rfl
  | cons z r ih =>
    cases r with
    | nil => exact (Str.append_empty z).symm
    | cons y r =>
      show z ++ Str.empty ++ Str.join Str.empty (y :: r) = z ++ cat (y :: r)
      rw [Str.append_empty, ih]
theorem sg_node {z : Str} {ps : List PyData} : sg (.tuple (.str z :: ps)) = z ++ sgs ps := by rw [sg]
theorem rank_len {z : Str} {n : Int} (h : rank z = some n) : z.length = 1 := by
  have key : ∀ (l : List (Str × Int)), (∀ q ∈ l, q.1.length = 1) → l.lookup z = some n → z.length = 1 := by
    intro l
    induction l with
    | nil => intro _ e; cases e
    | cons q r ih =>
      intro hq e
      rw [List.lookup_cons] at e
      cases c : z == q.1 with
      | true => rw [beq_iff_eq.mp c]; exact hq q List.mem_cons_self
      | false => rw [c] at e; exact ih (fun y hy => hq y (List.mem_cons_of_mem _ hy)) e
  exact key rkL (by decide) h
mutual
theorem pre_sg (q : List Int) : ∀ {d : PyData}, IsTr d → cat ((pre q d).map fun r => signOf r.2) = sg d
  | .tuple (.str z :: ps), h => by
    rw [pre, sg, List.map_cons, ← pres_sg q 0 (ps := ps) (fun p hp => by cases h with | mk _ h => exact h p hp)]
    rfl
  | .tuple [], h => by cases h
  | .tuple (.none :: _), h => by cases h
  | .tuple (.bool _ :: _), h => by cases h
  | .tuple (.int _ :: _), h => by cases h
  | .tuple (.list _ :: _), h => by cases h
  | .tuple (.tuple _ :: _), h => by cases h
  | .tuple (.dict _ :: _), h => by cases h
  | .none, h => by cases h
  | .bool _, h => by cases h
  | .int _, h => by cases h
  | .str _, h => by cases h
  | .list _, h => by cases h
  | .dict _, h => by cases h
theorem pres_sg (q : List Int) (k : Nat) : ∀ {ps : List PyData}, (∀ p ∈ ps, IsTr p) → cat ((pres q k ps).map fun r => signOf r.2) = sgs ps
  | [], _ => by rw [pres, sgs]; rfl
  | p :: r, h => by
    rw [pres, sgs, List.map_append, cat_app, pre_sg _ (h p List.mem_cons_self), pres_sg q (k + 1) fun y hy => h y (List.mem_cons_of_mem _ hy)]
end
mutual
theorem pre_tr (q : List Int) : ∀ {d : PyData}, IsTr d → ∀ r ∈ pre q d, IsTr r.2
  | .tuple (.str z :: ps), h => by
    rw [pre]
    intro r hr
    rcases List.mem_cons.mp hr with rfl | hr
    · exact h
    · exact pres_tr q 0 (ps := ps) (fun p hp => by cases h with | mk _ h => exact h p hp) r hr
  | .tuple [], h => by cases h
  | .tuple (.none :: _), h => by cases h
  | .tuple (.bool _ :: _), h => by cases h
  | .tuple (.int _ :: _), h => by cases h
  | .tuple (.list _ :: _), h => by cases h
  | .tuple (.tuple _ :: _), h => by cases h
  | .tuple (.dict _ :: _), h => by cases h
  | .none, h => by cases h
  | .bool _, h => by cases h
  | .int _, h => by cases h
  | .str _, h => by cases h
  | .list _, h => by cases h
  | .dict _, h => by cases h
theorem pres_tr (q : List Int) (k : Nat) : ∀ {ps : List PyData}, (∀ p ∈ ps, IsTr p) → ∀ r ∈ pres q k ps, IsTr r.2
  | [], _ => by rw [pres]; intro r hr; cases hr
  | p :: ps, h => by
    rw [pres]
    intro r hr
    rcases List.mem_append.mp hr with hr | hr
    · exact pre_tr _ (h p List.mem_cons_self) r hr
    · exact pres_tr q (k + 1) (fun y hy => h y (List.mem_cons_of_mem _ hy)) r hr
end
end K00

namespace K00
open PySem PySem.Spec PyProof.Rows L2 LamX DL
def db_check_tree0 (sp_is_tree : SpP)  : DS := (dIfS (dNot (dTest (dCall sp_is_tree (dCons (dVar 0) dNil))))
    dNever
    dNext)
theorem c_check_tree0 {P : Program} {w : World} {K : PySem.W.Frag} {mg : Str → Option Value} {base : Heap} {T : List (Addr × Str)} {k : Nat} {sp_is_tree : SpP} {sp : SpP} (D : DefAt K mg "check_tree" s_check_tree ["thing"]) (B : Bi mg builtL) (F_is_tree : Cal P w K mg base CX0 k "is_tree" (liftP K T sp_is_tree)) (hlen : ∀ as Q R, sp as Q R → as.length = 1) (law : ∀ as Q0 R0, sp as Q0 R0 → db_check_tree0 sp_is_tree  { nx := fun _ => Q0 (.val .none), rt := fun g _ => g ≠ .unk ∧ Q0 g } (startG 1 as)) :
    Cal P w K mg base CX0 (k + 1) "check_tree" (liftP K T sp) := by
  have sc := sc_check_tree
  have hj : k ≤ k := by omega
  exact D.mkP sc _ hlen (fun f cdv A outer s H E hr as Q0 R0 h => ⟨_, _, (by exact (ss_one (s_if (t_not (t_val (k_c F_is_tree hr (as_cons (e_var 0) as_nil) hj))) ss_never ss_nil))), law as Q0 R0 h⟩)
theorem l_check_tree0 : ∀ as Q0 R0, spCheck0 as Q0 R0 → db_check_tree0 spIsTree { nx := fun _ => Q0 (.val .none), rt := fun g _ => g ≠ .unk ∧ Q0 g } (startG 1 as) := by
  rintro _ Q0 R0 ⟨d, rfl, e, h⟩
  simp only [db_check_tree0, spIsTree, dSeq, dRet, dRetN, dNext, dAndV, dOrV, dNotV, dIsi, dVar, dC, dUn, dOp, dCB, dCons, dNil, dTup, dLst, dTest, dAnd, dOr, dNot, dIf, dIfS, dAsg, dPar, dDrop, dAug, dAsgT, dgName, dgNil, dgCons, dgTup, dCall, dCallX, fInT, fIxT, dSl, dPart, dNoPart, dLenV, dIxV, dSlV, dApp, dExt, dPop, dSetIx, ownQ, putO, dYes, dSeqI, dEnum, dRng1, wipeG, startG, List.map_cons, List.map_nil, List.length_cons, List.length_nil, List.replicate, List.cons_append, List.nil_append, List.getElem?_cons_zero, List.getElem?_cons_succ, List.set_cons_zero, List.set_cons_succ, Nat.reduceAdd, Nat.reduceSub, Nat.zero_add, ne_eq, reduceCtorEq, not_false_eq_true, true_and, if_true, if_false, Bool.false_eq_true, decide_eq_true_eq, decide_true, decide_false, Bool.not_true, Bool.not_false, ite_true, ite_false, reduceIte, Option.some.injEq, exists_eq_left', List.drop_succ_cons, List.drop_zero, ↓y_wdv, ↓y_wdo, ↓y_wds0, ↓y_wds1, ↓y_okv, ↓y_oko, ↓y_addi, ↓y_adds, ↓y_addt, ↓y_addl, ↓y_muli, ↓y_mull, ↓y_eqi, ↓y_eqs, ↓y_nei, ↓y_nes, ↓y_eqt, ↓y_eql, ↓y_lti, ↓y_fi, ↓y_fi0, ↓y_isb, ↓y_ixt, ↓y_ixl, ↓y_lent, ↓y_lenl, ↓y_int, ↓y_tupl, ↓y_tupt, ↓y_lstt, ↓y_lstl, ↓y_slt, ↓y_sll, ↓y_repr, ↓y_at0, ↓y_at1, ↓y_at2, ↓y_at3, ↓y_at4, ↓y_st1, ↓y_st2, ↓y_st3, ↓y_st4, ↓y_exd, atI_0, atI_1, atI_2, atI_3, atI_4, cut_drop1]
  refine ⟨d, rfl, ?_⟩
  rw [e]
  exact h
end K00

namespace K00
open PySem PySem.Spec PyProof.Rows L2 LamX DL
def db_check_treeX (sp_is_tree : SpP) (e_NoTree : Addr) : DS := (dIfS (dNot (dTest (dCall sp_is_tree (dCons (dVar 0) dNil))))
    (dRaise e_NoTree)
    dNext)
theorem c_check_treeX {P : Program} {w : World} {K : PySem.W.Frag} {mg : Str → Option Value} {base : Heap} {T : List (Addr × Str)} {k : Nat} {sp_is_tree : SpP} {e_NoTree : Addr} {sp : SpP} (D : DefAt K mg "check_tree" s_check_tree ["thing"]) (B : Bi mg builtL) (F_is_tree : Cal P w K mg base CX0 k "is_tree" (liftP K T sp_is_tree)) (X_NoTree : ExcOwn K mg "NoTree" e_NoTree) (hlen : ∀ as Q R, sp as Q R → as.length = 1) (law : ∀ as Q0 R0, sp as Q0 R0 → db_check_treeX sp_is_tree e_NoTree { nx := fun _ => Q0 (.val .none), rt := fun g _ => g ≠ .unk ∧ Q0 g, xc := fun c _ => R0 c } (startG 1 as)) :
    Cal P w K mg base (L2.CX P w) (k + 1) "check_tree" (liftP K T sp) := by
  have sc := sc_check_tree
  have hj : k ≤ k := by omega
  exact D.mkX sc _ hlen (fun f cdv A outer s H E hr tk as Q0 R0 h => ⟨_, _, (by exact (ss_one (s_if (t_not (t_val (k_c F_is_tree hr (as_cons (e_var 0) as_nil) hj))) (ss_one (s_raise0 X_NoTree rfl tk (by rfl))) ss_nil))), law as Q0 R0 h⟩)
theorem l_check_treeX {c : Addr} : ∀ as Q0 R0, (spBad c) as Q0 R0 → db_check_treeX spIsTree c { nx := fun _ => Q0 (.val .none), rt := fun g _ => g ≠ .unk ∧ Q0 g, xc := fun c _ => R0 c } (startG 1 as) := by
  rintro _ Q0 R0 ⟨d, rfl, e, h⟩
  simp only [db_check_treeX, spIsTree, dSeq, dRet, dRetN, dNext, dAndV, dOrV, dNotV, dIsi, dVar, dC, dUn, dOp, dCB, dCons, dNil, dTup, dLst, dTest, dAnd, dOr, dNot, dIf, dIfS, dAsg, dPar, dDrop, dAug, dAsgT, dgName, dgNil, dgCons, dgTup, dCall, dCallX, fInT, fIxT, dSl, dPart, dNoPart, dLenV, dIxV, dSlV, dApp, dExt, dPop, dSetIx, ownQ, putO, dYes, dSeqI, dEnum, dRng1, wipeG, startG, List.map_cons, List.map_nil, List.length_cons, List.length_nil, List.replicate, List.cons_append, List.nil_append, List.getElem?_cons_zero, List.getElem?_cons_succ, List.set_cons_zero, List.set_cons_succ, Nat.reduceAdd, Nat.reduceSub, Nat.zero_add, ne_eq, reduceCtorEq, not_false_eq_true, true_and, if_true, if_false, Bool.false_eq_true, decide_eq_true_eq, decide_true, decide_false, Bool.not_true, Bool.not_false, ite_true, ite_false, reduceIte, Option.some.injEq, exists_eq_left', List.drop_succ_cons, List.drop_zero, ↓y_wdv, ↓y_wdo, ↓y_wds0, ↓y_wds1, ↓y_okv, ↓y_oko, ↓y_addi, ↓y_adds, ↓y_addt, ↓y_addl, ↓y_muli, ↓y_mull, ↓y_eqi, ↓y_eqs, ↓y_nei, ↓y_nes, ↓y_eqt, ↓y_eql, ↓y_lti, ↓y_fi, ↓y_fi0, ↓y_isb, ↓y_ixt, ↓y_ixl, ↓y_lent, ↓y_lenl, ↓y_int, ↓y_tupl, ↓y_tupt, ↓y_lstt, ↓y_lstl, ↓y_slt, ↓y_sll, ↓y_repr, ↓y_at0, ↓y_at1, ↓y_at2, ↓y_at3, ↓y_at4, ↓y_st1, ↓y_st2, ↓y_st3, ↓y_st4, ↓y_exd, atI_0, atI_1, atI_2, atI_3, atI_4, cut_drop1]
  refine ⟨d, rfl, ?_⟩
  rw [e]
  exact h
end K00

namespace K00
open PySem PySem.Spec PyProof.Rows L2 LamX DL
def db_node_rows   : DS := (dSeq (dPar 1 2 (dCons (dLst dNil) (dCons (dLst (dCons (dTup (dCons (dTup dNil) (dCons (dVar 0) dNil))) dNil)) dNil)))
    (dSeq (dWhile (dTest (dOp (fI0 fun i j => .bool (decide (j < i))) (dLenV 2) (dC (.int 0))))
    (dSeq (dAsgT (dgTup 2 (dgCons (dgName 3) (dgCons (dgName 4) dgNil))) (dPop 2))
    (dSeq (dDrop (dApp 1 (dTup (dCons (dVar 3) (dCons (dVar 4) dNil)))))
    (dDrop (dExt 2 (dRevL (dLc (dEnum (dCons (dSl (dVar 4) (dPart (dC (.int 1))) dNoPart) dNil)) (dgTup 2 (dgCons (dgName 5) (dgCons (dgName 6) dgNil))) dYes (dTup (dCons (dOp fAdd (dVar 3) (dTup (dCons (dVar 5) dNil))) (dCons (dVar 6) dNil))) [5, 6])))))))
    (dRet (dVar 1))))
theorem c_node_rows {P : Program} {w : World} {K : PySem.W.Frag} {mg : Str → Option Value} {base : Heap} {T : List (Addr × Str)} {k : Nat} {sp : SpP} (D : DefAt K mg "node_rows" s_node_rows ["tree"]) (B : Bi mg builtL) (hlen : ∀ as Q R, sp as Q R → as.length = 1) (law : ∀ as Q0 R0, sp as Q0 R0 → db_node_rows   { nx := fun _ => Q0 (.val .none), rt := fun g _ => g ≠ .unk ∧ Q0 g } (startG 7 as)) :
    Cal P w K mg base CX0 (k + 1) "node_rows" (liftP K T sp) := by
  have sc := sc_node_rows
  have hj : k ≤ k := by omega
  exact D.mkP sc _ hlen (fun f cdv A outer s H E hr as Q0 R0 h => ⟨_, _, (by exact (ss_cons (s_par 1 2 rfl sc.nd (as_cons (e_lst as_nil) (as_cons (e_lst (as_cons (e_tup (as_cons (e_tup as_nil) (as_cons (e_var 0) as_nil))) as_nil)) as_nil)))
    (ss_cons (s_while PassesOwn.never (t_cmp c_gt (k_lenV K 2 (B "len" (by decide))) (e_int)) (ss_cons (s_asgT (k_tup K (gs_cons (g_name 3 sc.nd) (gs_cons (g_name 4 sc.nd) gs_nil))) (k_pop K 2))
    (ss_cons (s_expr (k_app K 1 (e_tup (as_cons (e_var 3) (as_cons (e_var 4) as_nil)))))
    (ss_one (s_expr (k_ext K 2 (k_rev K (e_lc rfl sc.nd (k_enum K (B "enumerate" (by decide)) (as_cons (k_sl K (e_var 4) (o_some (e_int)) o_none) as_nil)) (own := [("at", 5), ("part", 6)]) (blkOk_by rfl) (tgin_tup (tgin_cons tgm_name (tgm_cons tgm_name tgm_nil) (tgin_name (by decide)) (tgin_cons tgm_name tgm_nil (tgin_name (by decide)) tgin_nil))) (fun _ _ _ _ _ => (k_tup K (gs_cons (g_name 5 sc.nd) (gs_cons (g_name 6 sc.nd) gs_nil)))) (fun _ _ _ _ _ => ts_nil) (fun _ _ _ _ _ => (e_tup (as_cons (e_bin (k_add K) (e_var 3) (e_tup (as_cons (e_var 5) as_nil))) (as_cons (e_var 6) as_nil))))))))))))
    (ss_one (s_ret (e_var 1)))))), law as Q0 R0 h⟩)
theorem enum_mem {y : PyData} : ∀ {l : List PyData} {n : Nat}, y ∈ enumD n l → ∃ (i : Nat) (p : PyData), y = .tuple [.int i, p]
  | [], _, h => nomatch h
  | d :: r, n, h => by
    rcases List.mem_cons.mp h with rfl | h
    · exact ⟨n, d, rfl⟩
    · exact enum_mem h
def childF (q : List Int) (y : PyData) : PyData := match y with
  | .tuple [i, p] => .tuple [.tuple (q.map .int ++ [i]), p]
  | d => d
theorem enum_ixs (q : List Int) : ∀ (l : List PyData) (n : Nat), (enumD n l).map (childF q) = (ixs q n l).map rowD
  | [], _ => rfl
  | d :: r, n => by
    rw [enumD, ixs, List.map_cons, List.map_cons, enum_ixs q r (n + 1)]
    congr 1
    simp [childF, rowD]
def rowsN (st : List (List Int × PyData)) : Nat := (st.map fun x => nd x.2).sum
theorem rows_len (st : List (List Int × PyData)) : (st.flatMap fun r => pre r.1 r.2).length = rowsN st := by
  induction st with
  | nil => rfl
  | cons x r ih => simp only [List.flatMap_cons, List.length_append, pre_len, ih, rowsN, List.map_cons, List.sum_cons]
theorem st_len (st : List (List Int × PyData)) : st.length ≤ rowsN st := by
  induction st with
  | nil => exact Nat.le_refl _
  | cons x r ih =>
    have := nd_pos x.2
    simp only [List.length_cons, rowsN, List.map_cons, List.sum_cons] at ih ⊢
    omega
theorem l_node_rows : ∀ as Q0 R0, spRows as Q0 R0 → db_node_rows  { nx := fun _ => Q0 (.val .none), rt := fun g _ => g ≠ .unk ∧ Q0 g } (startG 7 as) := by
  rintro _ Q0 R0 ⟨d, rfl, h1, h3, h⟩
  simp only [db_node_rows, dRevL, dSeq, dRet, dRetN, dNext, dAndV, dOrV, dNotV, dIsi, dVar, dC, dUn, dOp, dCB, dCons, dNil, dTup, dLst, dTest, dAnd, dOr, dNot, dIf, dIfS, dAsg, dPar, dDrop, dAug, dAsgT, dgName, dgNil, dgCons, dgTup, dCall, dCallX, fInT, fIxT, dSl, dPart, dNoPart, dLenV, dIxV, dSlV, dApp, dExt, dPop, dSetIx, ownQ, putO, dYes, dSeqI, dEnum, dRng1, wipeG, startG, List.map_cons, List.map_nil, List.length_cons, List.length_nil, List.replicate, List.cons_append, List.nil_append, List.getElem?_cons_zero, List.getElem?_cons_succ, List.set_cons_zero, List.set_cons_succ, Nat.reduceAdd, Nat.reduceSub, Nat.zero_add, ne_eq, reduceCtorEq, not_false_eq_true, true_and, if_true, if_false, Bool.false_eq_true, decide_eq_true_eq, decide_true, decide_false, Bool.not_true, Bool.not_false, ite_true, ite_false, reduceIte, Option.some.injEq, exists_eq_left', List.drop_succ_cons, List.drop_zero, ↓y_wdv, ↓y_wdo, ↓y_wds0, ↓y_wds1, ↓y_okv, ↓y_oko, ↓y_addi, ↓y_adds, ↓y_addt, ↓y_addl, ↓y_muli, ↓y_mull, ↓y_eqi, ↓y_eqs, ↓y_nei, ↓y_nes, ↓y_eqt, ↓y_eql, ↓y_lti, ↓y_fi, ↓y_fi0, ↓y_isb, ↓y_ixt, ↓y_ixl, ↓y_lent, ↓y_lenl, ↓y_int, ↓y_tupl, ↓y_tupt, ↓y_lstt, ↓y_lstl, ↓y_slt, ↓y_sll, ↓y_repr, ↓y_at0, ↓y_at1, ↓y_at2, ↓y_at3, ↓y_at4, ↓y_st1, ↓y_st2, ↓y_st3, ↓y_st4, ↓y_exd, atI_0, atI_1, atI_2, atI_3, atI_4, cut_drop1]
  refine ⟨small (by omega), small (by omega), small (by omega), small (by omega), ?_⟩
  refine ⟨fun Γ => ∃ (dn st : List (List Int × PyData)) (g3 g4 : G), Γ = [.val d, .own false (dn.map rowD), .own false (st.reverse.map rowD), g3, g4, .unk, .unk] ∧ dn ++ (st.flatMap fun r => pre r.1 r.2) = pre [] d ∧ (∀ x ∈ st, IsTr x.2 ∧ x.1.length ≤ dn.length),
    fun Γ : Gs => match Γ[1]? with
      | some (G.own false l) => 1000 - l.length
      | _ => 0, ⟨[], [([], d)], .unk, .unk, rfl, by simp, fun x hx => by cases List.mem_singleton.mp hx; exact ⟨h1, Nat.le_refl _⟩⟩, ?_⟩
  rintro Γ ⟨dn, st, g3, g4, rfl, he, hst⟩
  have hlen := congrArg List.length he
  rw [List.length_append, rows_len, pre_len] at hlen
  have hsl := st_len st
  simp only [dSeq, dRet, dRetN, dNext, dAndV, dOrV, dNotV, dIsi, dVar, dC, dUn, dOp, dCB, dCons, dNil, dTup, dLst, dTest, dAnd, dOr, dNot, dIf, dIfS, dAsg, dPar, dDrop, dAug, dAsgT, dgName, dgNil, dgCons, dgTup, dCall, dCallX, fInT, fIxT, dSl, dPart, dNoPart, dLenV, dIxV, dSlV, dApp, dExt, dPop, dSetIx, ownQ, putO, dYes, dSeqI, dEnum, dRng1, wipeG, startG, List.map_cons, List.map_nil, List.length_cons, List.length_nil, List.replicate, List.cons_append, List.nil_append, List.getElem?_cons_zero, List.getElem?_cons_succ, List.set_cons_zero, List.set_cons_succ, Nat.reduceAdd, Nat.reduceSub, Nat.zero_add, ne_eq, reduceCtorEq, not_false_eq_true, true_and, if_true, if_false, Bool.false_eq_true, decide_eq_true_eq, decide_true, decide_false, Bool.not_true, Bool.not_false, ite_true, ite_false, reduceIte, Option.some.injEq, exists_eq_left', List.drop_succ_cons, List.drop_zero, ↓y_wdv, ↓y_wdo, ↓y_wds0, ↓y_wds1, ↓y_okv, ↓y_oko, ↓y_addi, ↓y_adds, ↓y_addt, ↓y_addl, ↓y_muli, ↓y_mull, ↓y_eqi, ↓y_eqs, ↓y_nei, ↓y_nes, ↓y_eqt, ↓y_eql, ↓y_lti, ↓y_fi, ↓y_fi0, ↓y_isb, ↓y_ixt, ↓y_ixl, ↓y_lent, ↓y_lenl, ↓y_int, ↓y_tupl, ↓y_tupt, ↓y_lstt, ↓y_lstl, ↓y_slt, ↓y_sll, ↓y_repr, ↓y_at0, ↓y_at1, ↓y_at2, ↓y_at3, ↓y_at4, ↓y_st1, ↓y_st2, ↓y_st3, ↓y_st4, ↓y_exd, atI_0, atI_1, atI_2, atI_3, atI_4, cut_drop1]
  cases st with
  | nil =>
    rw [if_neg (by simp)]
    simp only [List.flatMap_nil, List.append_nil] at he
    subst he
    exact h
  | cons x r =>
    obtain ⟨q, x⟩ := x
    rw [if_pos (by simp)]
    have eL : (((q, x) :: r).reverse.map rowD) = r.reverse.map rowD ++ [rowD (q, x)] := by simp
    rw [eL]
    refine ⟨rowD (q, x), last_snoc, ?_⟩
    rw [List.dropLast_concat]
    obtain ⟨hx, hq⟩ := hst _ List.mem_cons_self
    obtain ⟨z, ps, rfl, hr, hps, h4⟩ := hx.inv
    simp only [rowsN, List.map_cons, List.sum_cons, List.length_cons, nd_node] at hlen hsl hq
    simp only [rowD, dSeq, dRet, dRetN, dNext, dAndV, dOrV, dNotV, dIsi, dVar, dC, dUn, dOp, dCB, dCons, dNil, dTup, dLst, dTest, dAnd, dOr, dNot, dIf, dIfS, dAsg, dPar, dDrop, dAug, dAsgT, dgName, dgNil, dgCons, dgTup, dCall, dCallX, fInT, fIxT, dSl, dPart, dNoPart, dLenV, dIxV, dSlV, dApp, dExt, dPop, dSetIx, ownQ, putO, dYes, dSeqI, dEnum, dRng1, wipeG, startG, List.map_cons, List.map_nil, List.length_cons, List.length_nil, List.replicate, List.cons_append, List.nil_append, List.getElem?_cons_zero, List.getElem?_cons_succ, List.set_cons_zero, List.set_cons_succ, Nat.reduceAdd, Nat.reduceSub, Nat.zero_add, ne_eq, reduceCtorEq, not_false_eq_true, true_and, if_true, if_false, Bool.false_eq_true, decide_eq_true_eq, decide_true, decide_false, Bool.not_true, Bool.not_false, ite_true, ite_false, reduceIte, Option.some.injEq, exists_eq_left', List.drop_succ_cons, List.drop_zero, ↓y_wdv, ↓y_wdo, ↓y_wds0, ↓y_wds1, ↓y_okv, ↓y_oko, ↓y_addi, ↓y_adds, ↓y_addt, ↓y_addl, ↓y_muli, ↓y_mull, ↓y_eqi, ↓y_eqs, ↓y_nei, ↓y_nes, ↓y_eqt, ↓y_eql, ↓y_lti, ↓y_fi, ↓y_fi0, ↓y_isb, ↓y_ixt, ↓y_ixl, ↓y_lent, ↓y_lenl, ↓y_int, ↓y_tupl, ↓y_tupt, ↓y_lstt, ↓y_lstl, ↓y_slt, ↓y_sll, ↓y_repr, ↓y_at0, ↓y_at1, ↓y_at2, ↓y_at3, ↓y_at4, ↓y_st1, ↓y_st2, ↓y_st3, ↓y_st4, ↓y_exd, atI_0, atI_1, atI_2, atI_3, atI_4, cut_drop1]
    refine ⟨small (by omega), by rw [List.length_map]; exact Nat.lt_of_lt_of_le (by omega : dn.length < 2000) (small (Nat.le_refl _)), ?_⟩
    refine lc_map (items := enumD 0 ps) (f := childF q) (fun Q' hq => ?_) rfl (by rw [enumD_len]; exact small (by omega)) (fun y hy Q' hq' => ?_) ?_
    · simp only [dSeq, dRet, dRetN, dNext, dAndV, dOrV, dNotV, dIsi, dVar, dC, dUn, dOp, dCB, dCons, dNil, dTup, dLst, dTest, dAnd, dOr, dNot, dIf, dIfS, dAsg, dPar, dDrop, dAug, dAsgT, dgName, dgNil, dgCons, dgTup, dCall, dCallX, fInT, fIxT, dSl, dPart, dNoPart, dLenV, dIxV, dSlV, dApp, dExt, dPop, dSetIx, ownQ, putO, dYes, dSeqI, dEnum, dRng1, wipeG, startG, List.map_cons, List.map_nil, List.length_cons, List.length_nil, List.replicate, List.cons_append, List.nil_append, List.getElem?_cons_zero, List.getElem?_cons_succ, List.set_cons_zero, List.set_cons_succ, Nat.reduceAdd, Nat.reduceSub, Nat.zero_add, ne_eq, reduceCtorEq, not_false_eq_true, true_and, if_true, if_false, Bool.false_eq_true, decide_eq_true_eq, decide_true, decide_false, Bool.not_true, Bool.not_false, ite_true, ite_false, reduceIte, Option.some.injEq, exists_eq_left', List.drop_succ_cons, List.drop_zero, ↓y_wdv, ↓y_wdo, ↓y_wds0, ↓y_wds1, ↓y_okv, ↓y_oko, ↓y_addi, ↓y_adds, ↓y_addt, ↓y_addl, ↓y_muli, ↓y_mull, ↓y_eqi, ↓y_eqs, ↓y_nei, ↓y_nes, ↓y_eqt, ↓y_eql, ↓y_lti, ↓y_fi, ↓y_fi0, ↓y_isb, ↓y_ixt, ↓y_ixl, ↓y_lent, ↓y_lenl, ↓y_int, ↓y_tupl, ↓y_tupt, ↓y_lstt, ↓y_lstl, ↓y_slt, ↓y_sll, ↓y_repr, ↓y_at0, ↓y_at1, ↓y_at2, ↓y_at3, ↓y_at4, ↓y_st1, ↓y_st2, ↓y_st3, ↓y_st4, ↓y_exd, atI_0, atI_1, atI_2, atI_3, atI_4, cut_drop1]
      exact hq
    · obtain ⟨i, p, rfl⟩ := enum_mem hy
      simp only [dSeq, dRet, dRetN, dNext, dAndV, dOrV, dNotV, dIsi, dVar, dC, dUn, dOp, dCB, dCons, dNil, dTup, dLst, dTest, dAnd, dOr, dNot, dIf, dIfS, dAsg, dPar, dDrop, dAug, dAsgT, dgName, dgNil, dgCons, dgTup, dCall, dCallX, fInT, fIxT, dSl, dPart, dNoPart, dLenV, dIxV, dSlV, dApp, dExt, dPop, dSetIx, ownQ, putO, dYes, dSeqI, dEnum, dRng1, wipeG, startG, List.map_cons, List.map_nil, List.length_cons, List.length_nil, List.replicate, List.cons_append, List.nil_append, List.getElem?_cons_zero, List.getElem?_cons_succ, List.set_cons_zero, List.set_cons_succ, Nat.reduceAdd, Nat.reduceSub, Nat.zero_add, ne_eq, reduceCtorEq, not_false_eq_true, true_and, if_true, if_false, Bool.false_eq_true, decide_eq_true_eq, decide_true, decide_false, Bool.not_true, Bool.not_false, ite_true, ite_false, reduceIte, Option.some.injEq, exists_eq_left', List.drop_succ_cons, List.drop_zero, ↓y_wdv, ↓y_wdo, ↓y_wds0, ↓y_wds1, ↓y_okv, ↓y_oko, ↓y_addi, ↓y_adds, ↓y_addt, ↓y_addl, ↓y_muli, ↓y_mull, ↓y_eqi, ↓y_eqs, ↓y_nei, ↓y_nes, ↓y_eqt, ↓y_eql, ↓y_lti, ↓y_fi, ↓y_fi0, ↓y_isb, ↓y_ixt, ↓y_ixl, ↓y_lent, ↓y_lenl, ↓y_int, ↓y_tupl, ↓y_tupt, ↓y_lstt, ↓y_lstl, ↓y_slt, ↓y_sll, ↓y_repr, ↓y_at0, ↓y_at1, ↓y_at2, ↓y_at3, ↓y_at4, ↓y_st1, ↓y_st2, ↓y_st3, ↓y_st4, ↓y_exd, atI_0, atI_1, atI_2, atI_3, atI_4, cut_drop1]
      refine ⟨small (by omega), by rw [List.length_map]; exact small (by omega), small (by omega), ?_⟩
      exact hq' _ (by rfl)
    · simp only [dSeq, dRet, dRetN, dNext, dAndV, dOrV, dNotV, dIsi, dVar, dC, dUn, dOp, dCB, dCons, dNil, dTup, dLst, dTest, dAnd, dOr, dNot, dIf, dIfS, dAsg, dPar, dDrop, dAug, dAsgT, dgName, dgNil, dgCons, dgTup, dCall, dCallX, fInT, fIxT, dSl, dPart, dNoPart, dLenV, dIxV, dSlV, dApp, dExt, dPop, dSetIx, ownQ, putO, dYes, dSeqI, dEnum, dRng1, wipeG, startG, List.map_cons, List.map_nil, List.length_cons, List.length_nil, List.replicate, List.cons_append, List.nil_append, List.getElem?_cons_zero, List.getElem?_cons_succ, List.set_cons_zero, List.set_cons_succ, Nat.reduceAdd, Nat.reduceSub, Nat.zero_add, ne_eq, reduceCtorEq, not_false_eq_true, true_and, if_true, if_false, Bool.false_eq_true, decide_eq_true_eq, decide_true, decide_false, Bool.not_true, Bool.not_false, ite_true, ite_false, reduceIte, Option.some.injEq, exists_eq_left', List.drop_succ_cons, List.drop_zero, ↓y_wdv, ↓y_wdo, ↓y_wds0, ↓y_wds1, ↓y_okv, ↓y_oko, ↓y_addi, ↓y_adds, ↓y_addt, ↓y_addl, ↓y_muli, ↓y_mull, ↓y_eqi, ↓y_eqs, ↓y_nei, ↓y_nes, ↓y_eqt, ↓y_eql, ↓y_lti, ↓y_fi, ↓y_fi0, ↓y_isb, ↓y_ixt, ↓y_ixl, ↓y_lent, ↓y_lenl, ↓y_int, ↓y_tupl, ↓y_tupt, ↓y_lstt, ↓y_lstl, ↓y_slt, ↓y_sll, ↓y_repr, ↓y_at0, ↓y_at1, ↓y_at2, ↓y_at3, ↓y_at4, ↓y_st1, ↓y_st2, ↓y_st3, ↓y_st4, ↓y_exd, atI_0, atI_1, atI_2, atI_3, atI_4, cut_drop1]
      rw [enum_ixs]
      have e2 : (ixs q 0 ps ++ r).reverse.map rowD = r.reverse.map rowD ++ ((ixs q 0 ps).map rowD).reverse := by
        rw [List.reverse_append, List.map_append, List.map_reverse (l := ixs q 0 ps)]
      have e3 : (dn ++ [(q, PyData.tuple (.str z :: ps))]).map rowD = dn.map rowD ++ [rowD (q, .tuple (.str z :: ps))] := by rw [List.map_append]; rfl
      refine ⟨small ?_, ⟨dn ++ [(q, .tuple (.str z :: ps))], ixs q 0 ps ++ r, .val (.tuple (q.map .int)), .val (.tuple (.str z :: ps)), ?_, ?_, ?_⟩, ?_⟩
      · simp only [List.length_map, List.length_reverse, ixs_len, List.length_append]
        have := st_len r
        simp only [rowsN] at this
        omega
      · rw [e2, e3]
        rfl
      · rw [← he, List.flatMap_append, ← pres_eq, List.flatMap_cons, pre_node]
        simp
      · intro y hy
        rcases List.mem_append.mp hy with hy | hy
        · obtain ⟨a, b⟩ := ixs_mem hy
          exact ⟨hps _ a, by rw [b]; simp; omega⟩
        · obtain ⟨a, b⟩ := hst y (List.mem_cons_of_mem _ hy)
          exact ⟨a, by simp; omega⟩
      · simp only [List.length_map, List.length_append, List.length_singleton]
        omega
end K00

namespace K00
open PySem PySem.Spec PyProof.Rows L2 LamX DL
def db_raw_nodes (sp_node_rows : SpP)  : DS := (dRet (dCB fLen (dCons (dCall sp_node_rows (dCons (dVar 0) dNil)) dNil)))
theorem c_raw_nodes {P : Program} {w : World} {K : PySem.W.Frag} {mg : Str → Option Value} {base : Heap} {T : List (Addr × Str)} {k : Nat} {sp_node_rows : SpP} {sp : SpP} (D : DefAt K mg "raw_nodes" s_raw_nodes ["tree"]) (B : Bi mg builtL) (F_node_rows : Cal P w K mg base CX0 k "node_rows" (liftP K T sp_node_rows)) (hlen : ∀ as Q R, sp as Q R → as.length = 1) (law : ∀ as Q0 R0, sp as Q0 R0 → db_raw_nodes sp_node_rows  { nx := fun _ => Q0 (.val .none), rt := fun g _ => g ≠ .unk ∧ Q0 g } (startG 1 as)) :
    Cal P w K mg base CX0 (k + 1) "raw_nodes" (liftP K T sp) := by
  have sc := sc_raw_nodes
  have hj : k ≤ k := by omega
  exact D.mkP sc _ hlen (fun f cdv A outer s H E hr as Q0 R0 h => ⟨_, _, (by exact (ss_one (s_ret (k_cb (q_len K) PySem.boot_len (B "len" (by decide)) (as_cons (k_c F_node_rows hr (as_cons (e_var 0) as_nil) hj) as_nil))))), law as Q0 R0 h⟩)
theorem l_raw_nodes : ∀ as Q0 R0, spRaw as Q0 R0 → db_raw_nodes spRows { nx := fun _ => Q0 (.val .none), rt := fun g _ => g ≠ .unk ∧ Q0 g } (startG 1 as) := by
  rintro _ Q0 R0 ⟨d, rfl, h1, h3, h⟩
  simp only [db_raw_nodes, spRows, dSeq, dRet, dRetN, dNext, dAndV, dOrV, dNotV, dIsi, dVar, dC, dUn, dOp, dCB, dCons, dNil, dTup, dLst, dTest, dAnd, dOr, dNot, dIf, dIfS, dAsg, dPar, dDrop, dAug, dAsgT, dgName, dgNil, dgCons, dgTup, dCall, dCallX, fInT, fIxT, dSl, dPart, dNoPart, dLenV, dIxV, dSlV, dApp, dExt, dPop, dSetIx, ownQ, putO, dYes, dSeqI, dEnum, dRng1, wipeG, startG, List.map_cons, List.map_nil, List.length_cons, List.length_nil, List.replicate, List.cons_append, List.nil_append, List.getElem?_cons_zero, List.getElem?_cons_succ, List.set_cons_zero, List.set_cons_succ, Nat.reduceAdd, Nat.reduceSub, Nat.zero_add, ne_eq, reduceCtorEq, not_false_eq_true, true_and, if_true, if_false, Bool.false_eq_true, decide_eq_true_eq, decide_true, decide_false, Bool.not_true, Bool.not_false, ite_true, ite_false, reduceIte, Option.some.injEq, exists_eq_left', List.drop_succ_cons, List.drop_zero, ↓y_wdv, ↓y_wdo, ↓y_wds0, ↓y_wds1, ↓y_okv, ↓y_oko, ↓y_addi, ↓y_adds, ↓y_addt, ↓y_addl, ↓y_muli, ↓y_mull, ↓y_eqi, ↓y_eqs, ↓y_nei, ↓y_nes, ↓y_eqt, ↓y_eql, ↓y_lti, ↓y_fi, ↓y_fi0, ↓y_isb, ↓y_ixt, ↓y_ixl, ↓y_lent, ↓y_lenl, ↓y_int, ↓y_tupl, ↓y_tupt, ↓y_lstt, ↓y_lstl, ↓y_slt, ↓y_sll, ↓y_repr, ↓y_at0, ↓y_at1, ↓y_at2, ↓y_at3, ↓y_at4, ↓y_st1, ↓y_st2, ↓y_st3, ↓y_st4, ↓y_exd, atI_0, atI_1, atI_2, atI_3, atI_4, cut_drop1]
  refine ⟨d, rfl, h1, h3, ?_⟩
  rw [List.length_map, pre_len]
  exact h
end K00

namespace K00
open PySem PySem.Spec PyProof.Rows L2 LamX DL
def db_raw_signs (sp_node_rows : SpP)  : DS := (dRet (dJoin (dC (.str "")) (dLc (dSeqI (dCall sp_node_rows (dCons (dVar 0) dNil))) (dgTup 2 (dgCons (dgName 1) (dgCons (dgName 2) dgNil))) dYes (dOp fIx (dVar 2) (dC (.int 0))) [1, 2])))
theorem c_raw_signs {P : Program} {w : World} {K : PySem.W.Frag} {mg : Str → Option Value} {base : Heap} {T : List (Addr × Str)} {k : Nat} {sp_node_rows : SpP} {sp : SpP} (D : DefAt K mg "raw_signs" s_raw_signs ["tree"]) (B : Bi mg builtL) (F_node_rows : Cal P w K mg base CX0 k "node_rows" (liftP K T sp_node_rows)) (hlen : ∀ as Q R, sp as Q R → as.length = 1) (law : ∀ as Q0 R0, sp as Q0 R0 → db_raw_signs sp_node_rows  { nx := fun _ => Q0 (.val .none), rt := fun g _ => g ≠ .unk ∧ Q0 g } (startG 3 as)) :
    Cal P w K mg base CX0 (k + 1) "raw_signs" (liftP K T sp) := by
  have sc := sc_raw_signs
  have hj : k ≤ k := by omega
  exact D.mkP sc _ hlen (fun f cdv A outer s H E hr as Q0 R0 h => ⟨_, _, (by exact (ss_one (s_ret (k_join K (e_str) (e_lc rfl sc.nd (k_seq K (k_c F_node_rows hr (as_cons (e_var 0) as_nil) hj)) (own := [("path", 1), ("node", 2)]) (blkOk_by rfl) (tgin_tup (tgin_cons tgm_name (tgm_cons tgm_name tgm_nil) (tgin_name (by decide)) (tgin_cons tgm_name tgm_nil (tgin_name (by decide)) tgin_nil))) (fun _ _ _ _ _ => (k_tup K (gs_cons (g_name 1 sc.nd) (gs_cons (g_name 2 sc.nd) gs_nil)))) (fun _ _ _ _ _ => ts_nil) (fun _ _ _ _ _ => (k_ix K (e_var 2) (e_int)))))))), law as Q0 R0 h⟩)
theorem l_raw_signs : ∀ as Q0 R0, spRawSg as Q0 R0 → db_raw_signs spRows { nx := fun _ => Q0 (.val .none), rt := fun g _ => g ≠ .unk ∧ Q0 g } (startG 3 as) := by
  rintro _ Q0 R0 ⟨d, rfl, h1, h3, h⟩
  simp only [db_raw_signs, dJoin, spRows, dSeq, dRet, dRetN, dNext, dAndV, dOrV, dNotV, dIsi, dVar, dC, dUn, dOp, dCB, dCons, dNil, dTup, dLst, dTest, dAnd, dOr, dNot, dIf, dIfS, dAsg, dPar, dDrop, dAug, dAsgT, dgName, dgNil, dgCons, dgTup, dCall, dCallX, fInT, fIxT, dSl, dPart, dNoPart, dLenV, dIxV, dSlV, dApp, dExt, dPop, dSetIx, ownQ, putO, dYes, dSeqI, dEnum, dRng1, wipeG, startG, List.map_cons, List.map_nil, List.length_cons, List.length_nil, List.replicate, List.cons_append, List.nil_append, List.getElem?_cons_zero, List.getElem?_cons_succ, List.set_cons_zero, List.set_cons_succ, Nat.reduceAdd, Nat.reduceSub, Nat.zero_add, ne_eq, reduceCtorEq, not_false_eq_true, true_and, if_true, if_false, Bool.false_eq_true, decide_eq_true_eq, decide_true, decide_false, Bool.not_true, Bool.not_false, ite_true, ite_false, reduceIte, Option.some.injEq, exists_eq_left', List.drop_succ_cons, List.drop_zero, ↓y_wdv, ↓y_wdo, ↓y_wds0, ↓y_wds1, ↓y_okv, ↓y_oko, ↓y_addi, ↓y_adds, ↓y_addt, ↓y_addl, ↓y_muli, ↓y_mull, ↓y_eqi, ↓y_eqs, ↓y_nei, ↓y_nes, ↓y_eqt, ↓y_eql, ↓y_lti, ↓y_fi, ↓y_fi0, ↓y_isb, ↓y_ixt, ↓y_ixl, ↓y_lent, ↓y_lenl, ↓y_int, ↓y_tupl, ↓y_tupt, ↓y_lstt, ↓y_lstl, ↓y_slt, ↓y_sll, ↓y_repr, ↓y_at0, ↓y_at1, ↓y_at2, ↓y_at3, ↓y_at4, ↓y_st1, ↓y_st2, ↓y_st3, ↓y_st4, ↓y_exd, atI_0, atI_1, atI_2, atI_3, atI_4, cut_drop1]
  refine ⟨_, rfl, ?_⟩
  refine lc_map (items := (pre [] d).map rowD) (f := fun r => match r with | .tuple [_, n] => .str (signOf n) | d => d) (fun Q' hq => ?_) rfl (by rw [List.length_map, pre_len]; exact small (by omega)) (fun r hr Q' hq => ?_) ?_
  · simp only [dSeq, dRet, dRetN, dNext, dAndV, dOrV, dNotV, dIsi, dVar, dC, dUn, dOp, dCB, dCons, dNil, dTup, dLst, dTest, dAnd, dOr, dNot, dIf, dIfS, dAsg, dPar, dDrop, dAug, dAsgT, dgName, dgNil, dgCons, dgTup, dCall, dCallX, fInT, fIxT, dSl, dPart, dNoPart, dLenV, dIxV, dSlV, dApp, dExt, dPop, dSetIx, ownQ, putO, dYes, dSeqI, dEnum, dRng1, wipeG, startG, List.map_cons, List.map_nil, List.length_cons, List.length_nil, List.replicate, List.cons_append, List.nil_append, List.getElem?_cons_zero, List.getElem?_cons_succ, List.set_cons_zero, List.set_cons_succ, Nat.reduceAdd, Nat.reduceSub, Nat.zero_add, ne_eq, reduceCtorEq, not_false_eq_true, true_and, if_true, if_false, Bool.false_eq_true, decide_eq_true_eq, decide_true, decide_false, Bool.not_true, Bool.not_false, ite_true, ite_false, reduceIte, Option.some.injEq, exists_eq_left', List.drop_succ_cons, List.drop_zero, ↓y_wdv, ↓y_wdo, ↓y_wds0, ↓y_wds1, ↓y_okv, ↓y_oko, ↓y_addi, ↓y_adds, ↓y_addt, ↓y_addl, ↓y_muli, ↓y_mull, ↓y_eqi, ↓y_eqs, ↓y_nei, ↓y_nes, ↓y_eqt, ↓y_eql, ↓y_lti, ↓y_fi, ↓y_fi0, ↓y_isb, ↓y_ixt, ↓y_ixl, ↓y_lent, ↓y_lenl, ↓y_int, ↓y_tupl, ↓y_tupt, ↓y_lstt, ↓y_lstl, ↓y_slt, ↓y_sll, ↓y_repr, ↓y_at0, ↓y_at1, ↓y_at2, ↓y_at3, ↓y_at4, ↓y_st1, ↓y_st2, ↓y_st3, ↓y_st4, ↓y_exd, atI_0, atI_1, atI_2, atI_3, atI_4, cut_drop1]
    exact ⟨d, rfl, h1, h3, hq⟩
  · obtain ⟨q, hm, rfl⟩ := List.mem_map.mp hr
    obtain ⟨z, ps, e, _⟩ := (pre_tr [] h1 q hm).inv
    simp only [rowD, e] at hq
    simp only [rowD, e, dSeq, dRet, dRetN, dNext, dAndV, dOrV, dNotV, dIsi, dVar, dC, dUn, dOp, dCB, dCons, dNil, dTup, dLst, dTest, dAnd, dOr, dNot, dIf, dIfS, dAsg, dPar, dDrop, dAug, dAsgT, dgName, dgNil, dgCons, dgTup, dCall, dCallX, fInT, fIxT, dSl, dPart, dNoPart, dLenV, dIxV, dSlV, dApp, dExt, dPop, dSetIx, ownQ, putO, dYes, dSeqI, dEnum, dRng1, wipeG, startG, List.map_cons, List.map_nil, List.length_cons, List.length_nil, List.replicate, List.cons_append, List.nil_append, List.getElem?_cons_zero, List.getElem?_cons_succ, List.set_cons_zero, List.set_cons_succ, Nat.reduceAdd, Nat.reduceSub, Nat.zero_add, ne_eq, reduceCtorEq, not_false_eq_true, true_and, if_true, if_false, Bool.false_eq_true, decide_eq_true_eq, decide_true, decide_false, Bool.not_true, Bool.not_false, ite_true, ite_false, reduceIte, Option.some.injEq, exists_eq_left', List.drop_succ_cons, List.drop_zero, ↓y_wdv, ↓y_wdo, ↓y_wds0, ↓y_wds1, ↓y_okv, ↓y_oko, ↓y_addi, ↓y_adds, ↓y_addt, ↓y_addl, ↓y_muli, ↓y_mull, ↓y_eqi, ↓y_eqs, ↓y_nei, ↓y_nes, ↓y_eqt, ↓y_eql, ↓y_lti, ↓y_fi, ↓y_fi0, ↓y_isb, ↓y_ixt, ↓y_ixl, ↓y_lent, ↓y_lenl, ↓y_int, ↓y_tupl, ↓y_tupt, ↓y_lstt, ↓y_lstl, ↓y_slt, ↓y_sll, ↓y_repr, ↓y_at0, ↓y_at1, ↓y_at2, ↓y_at3, ↓y_at4, ↓y_st1, ↓y_st2, ↓y_st3, ↓y_st4, ↓y_exd, atI_0, atI_1, atI_2, atI_3, atI_4, cut_drop1]
    exact hq [.val d, .val (.tuple (q.1.map .int)), .val (.tuple (.str z :: ps))] rfl
  · refine ⟨(pre [] d).map fun r => signOf r.2, .inl (by rw [List.map_map, List.map_map]; rfl), ?_, ?_⟩
    · have z : ∀ l : List (List Int × PyData), (∀ r ∈ l, IsTr r.2) → ((l.map fun r => signOf r.2).map (·.length)).sum = l.length := by
        intro l
        induction l with
        | nil => intro _; rfl
        | cons r t ih =>
          intro hl
          obtain ⟨z, ps, e, hz, _⟩ := (hl r List.mem_cons_self).inv
          have h1 : (signOf r.2).length = 1 := by rw [e]; exact rank_len hz
          simp only [List.map_cons, List.sum_cons, List.length_cons, h1]
          have := ih fun y hy => hl y (List.mem_cons_of_mem _ hy)
          omega
      rw [z _ (pre_tr [] h1), pre_len]
      rw [show (Str.ofString "").length = 0 from rfl]
      omega
    · show _ ∧ Q0 (.val (.str (Txt.join Str.empty _)))
      rw [join_cat, pre_sg _ h1]
      exact ⟨(fun z => nomatch z), h⟩
end K00

namespace K00
open PySem PySem.Spec PyProof.Rows L2 LamX DL
def db_nodes_many0 (sp_check_tree : SpP) (sp_raw_nodes : SpP)  : DS := (dSeq (dDrop (dCall sp_check_tree (dCons (dVar 0) dNil)))
    (dRet (dCall sp_raw_nodes (dCons (dVar 0) dNil))))
theorem c_nodes_many0 {P : Program} {w : World} {K : PySem.W.Frag} {mg : Str → Option Value} {base : Heap} {T : List (Addr × Str)} {k : Nat} {sp_check_tree : SpP} {sp_raw_nodes : SpP} {sp : SpP} (D : DefAt K mg "nodes_many" s_nodes_many ["tree"]) (B : Bi mg builtL) (F_check_tree : Cal P w K mg base CX0 k "check_tree" (liftP K T sp_check_tree)) (F_raw_nodes : Cal P w K mg base CX0 k "raw_nodes" (liftP K T sp_raw_nodes)) (hlen : ∀ as Q R, sp as Q R → as.length = 1) (law : ∀ as Q0 R0, sp as Q0 R0 → db_nodes_many0 sp_check_tree sp_raw_nodes  { nx := fun _ => Q0 (.val .none), rt := fun g _ => g ≠ .unk ∧ Q0 g } (startG 1 as)) :
    Cal P w K mg base CX0 (k + 1) "nodes_many" (liftP K T sp) := by
  have sc := sc_nodes_many
  have hj : k ≤ k := by omega
  exact D.mkP sc _ hlen (fun f cdv A outer s H E hr as Q0 R0 h => ⟨_, _, (by exact (ss_cons (s_expr (k_c F_check_tree hr (as_cons (e_var 0) as_nil) hj))
    (ss_one (s_ret (k_c F_raw_nodes hr (as_cons (e_var 0) as_nil) hj))))), law as Q0 R0 h⟩)
theorem l_nodes_many0 : ∀ as Q0 R0, spMany as Q0 R0 → db_nodes_many0 spCheck0 spRaw { nx := fun _ => Q0 (.val .none), rt := fun g _ => g ≠ .unk ∧ Q0 g } (startG 1 as) := by
  rintro _ Q0 R0 ⟨d, rfl, e, h⟩
  obtain ⟨h1, _, h3⟩ := isTree_iff.mp e
  refine ⟨d, rfl, e, d, rfl, h1, h3, ?_⟩
  exact ⟨(fun z => nomatch z), h⟩
end K00

namespace K00
open PySem PySem.Spec PyProof.Rows L2 LamX DL
def db_deep0 (sp_check_tree : SpP) (sp_node_rows : SpP)  : DS := (dSeq (dDrop (dCall sp_check_tree (dCons (dVar 0) dNil)))
    (dRet (dOp fAdd (dC (.int 1)) (dCB fMax (dCons (dLc (dSeqI (dCall sp_node_rows (dCons (dVar 0) dNil))) (dgTup 2 (dgCons (dgName 1) (dgCons (dgName 2) dgNil))) dYes (dCB fLen (dCons (dVar 1) dNil)) [1, 2]) dNil)))))
theorem c_deep0 {P : Program} {w : World} {K : PySem.W.Frag} {mg : Str → Option Value} {base : Heap} {T : List (Addr × Str)} {k : Nat} {sp_check_tree : SpP} {sp_node_rows : SpP} {sp : SpP} (D : DefAt K mg "deep" s_deep ["tree"]) (B : Bi mg builtL) (F_check_tree : Cal P w K mg base CX0 k "check_tree" (liftP K T sp_check_tree)) (F_node_rows : Cal P w K mg base CX0 k "node_rows" (liftP K T sp_node_rows)) (hlen : ∀ as Q R, sp as Q R → as.length = 1) (law : ∀ as Q0 R0, sp as Q0 R0 → db_deep0 sp_check_tree sp_node_rows  { nx := fun _ => Q0 (.val .none), rt := fun g _ => g ≠ .unk ∧ Q0 g } (startG 3 as)) :
    Cal P w K mg base CX0 (k + 1) "deep" (liftP K T sp) := by
  have sc := sc_deep
  have hj : k ≤ k := by omega
  exact D.mkP sc _ hlen (fun f cdv A outer s H E hr as Q0 R0 h => ⟨_, _, (by exact (ss_cons (s_expr (k_c F_check_tree hr (as_cons (e_var 0) as_nil) hj))
    (ss_one (s_ret (e_bin (k_add K) (e_int) (k_cb (q_max K) PyProof.Rows.boot_max (B "max" (by decide)) (as_cons (e_lc rfl sc.nd (k_seq K (k_c F_node_rows hr (as_cons (e_var 0) as_nil) hj)) (own := [("path", 1), ("node", 2)]) (blkOk_by rfl) (tgin_tup (tgin_cons tgm_name (tgm_cons tgm_name tgm_nil) (tgin_name (by decide)) (tgin_cons tgm_name tgm_nil (tgin_name (by decide)) tgin_nil))) (fun _ _ _ _ _ => (k_tup K (gs_cons (g_name 1 sc.nd) (gs_cons (g_name 2 sc.nd) gs_nil)))) (fun _ _ _ _ _ => ts_nil) (fun _ _ _ _ _ => (k_cb (q_len K) PySem.boot_len (B "len" (by decide)) (as_cons (e_var 1) as_nil)))) as_nil))))))), law as Q0 R0 h⟩)
theorem l_deep0 : ∀ as Q0 R0, spDeep as Q0 R0 → db_deep0 spCheck0 spRows { nx := fun _ => Q0 (.val .none), rt := fun g _ => g ≠ .unk ∧ Q0 g } (startG 3 as) := by
  rintro _ Q0 R0 ⟨d, rfl, e, h⟩
  obtain ⟨h1, _, h3⟩ := isTree_iff.mp e
  simp only [db_deep0, spRows, spCheck0, dSeq, dRet, dRetN, dNext, dAndV, dOrV, dNotV, dIsi, dVar, dC, dUn, dOp, dCB, dCons, dNil, dTup, dLst, dTest, dAnd, dOr, dNot, dIf, dIfS, dAsg, dPar, dDrop, dAug, dAsgT, dgName, dgNil, dgCons, dgTup, dCall, dCallX, fInT, fIxT, dSl, dPart, dNoPart, dLenV, dIxV, dSlV, dApp, dExt, dPop, dSetIx, ownQ, putO, dYes, dSeqI, dEnum, dRng1, wipeG, startG, List.map_cons, List.map_nil, List.length_cons, List.length_nil, List.replicate, List.cons_append, List.nil_append, List.getElem?_cons_zero, List.getElem?_cons_succ, List.set_cons_zero, List.set_cons_succ, Nat.reduceAdd, Nat.reduceSub, Nat.zero_add, ne_eq, reduceCtorEq, not_false_eq_true, true_and, if_true, if_false, Bool.false_eq_true, decide_eq_true_eq, decide_true, decide_false, Bool.not_true, Bool.not_false, ite_true, ite_false, reduceIte, Option.some.injEq, exists_eq_left', List.drop_succ_cons, List.drop_zero, ↓y_wdv, ↓y_wdo, ↓y_wds0, ↓y_wds1, ↓y_okv, ↓y_oko, ↓y_addi, ↓y_adds, ↓y_addt, ↓y_addl, ↓y_muli, ↓y_mull, ↓y_eqi, ↓y_eqs, ↓y_nei, ↓y_nes, ↓y_eqt, ↓y_eql, ↓y_lti, ↓y_fi, ↓y_fi0, ↓y_isb, ↓y_ixt, ↓y_ixl, ↓y_lent, ↓y_lenl, ↓y_int, ↓y_tupl, ↓y_tupt, ↓y_lstt, ↓y_lstl, ↓y_slt, ↓y_sll, ↓y_repr, ↓y_at0, ↓y_at1, ↓y_at2, ↓y_at3, ↓y_at4, ↓y_st1, ↓y_st2, ↓y_st3, ↓y_st4, ↓y_exd, atI_0, atI_1, atI_2, atI_3, atI_4, cut_drop1]
  refine ⟨d, rfl, e, ?_⟩
  refine lc_map (items := (pre [] d).map rowD) (f := fun r => match r with | .tuple [.tuple p, _] => .int p.length | d => d) (fun Q' hq => ?_) rfl (by rw [List.length_map, pre_len]; exact small (by omega)) (fun r hr Q' hq => ?_) ?_
  · simp only [dSeq, dRet, dRetN, dNext, dAndV, dOrV, dNotV, dIsi, dVar, dC, dUn, dOp, dCB, dCons, dNil, dTup, dLst, dTest, dAnd, dOr, dNot, dIf, dIfS, dAsg, dPar, dDrop, dAug, dAsgT, dgName, dgNil, dgCons, dgTup, dCall, dCallX, fInT, fIxT, dSl, dPart, dNoPart, dLenV, dIxV, dSlV, dApp, dExt, dPop, dSetIx, ownQ, putO, dYes, dSeqI, dEnum, dRng1, wipeG, startG, List.map_cons, List.map_nil, List.length_cons, List.length_nil, List.replicate, List.cons_append, List.nil_append, List.getElem?_cons_zero, List.getElem?_cons_succ, List.set_cons_zero, List.set_cons_succ, Nat.reduceAdd, Nat.reduceSub, Nat.zero_add, ne_eq, reduceCtorEq, not_false_eq_true, true_and, if_true, if_false, Bool.false_eq_true, decide_eq_true_eq, decide_true, decide_false, Bool.not_true, Bool.not_false, ite_true, ite_false, reduceIte, Option.some.injEq, exists_eq_left', List.drop_succ_cons, List.drop_zero, ↓y_wdv, ↓y_wdo, ↓y_wds0, ↓y_wds1, ↓y_okv, ↓y_oko, ↓y_addi, ↓y_adds, ↓y_addt, ↓y_addl, ↓y_muli, ↓y_mull, ↓y_eqi, ↓y_eqs, ↓y_nei, ↓y_nes, ↓y_eqt, ↓y_eql, ↓y_lti, ↓y_fi, ↓y_fi0, ↓y_isb, ↓y_ixt, ↓y_ixl, ↓y_lent, ↓y_lenl, ↓y_int, ↓y_tupl, ↓y_tupt, ↓y_lstt, ↓y_lstl, ↓y_slt, ↓y_sll, ↓y_repr, ↓y_at0, ↓y_at1, ↓y_at2, ↓y_at3, ↓y_at4, ↓y_st1, ↓y_st2, ↓y_st3, ↓y_st4, ↓y_exd, atI_0, atI_1, atI_2, atI_3, atI_4, cut_drop1]
    exact ⟨d, rfl, h1, h3, hq⟩
  · obtain ⟨q, hm, rfl⟩ := List.mem_map.mp hr
    simp only [rowD, dSeq, dRet, dRetN, dNext, dAndV, dOrV, dNotV, dIsi, dVar, dC, dUn, dOp, dCB, dCons, dNil, dTup, dLst, dTest, dAnd, dOr, dNot, dIf, dIfS, dAsg, dPar, dDrop, dAug, dAsgT, dgName, dgNil, dgCons, dgTup, dCall, dCallX, fInT, fIxT, dSl, dPart, dNoPart, dLenV, dIxV, dSlV, dApp, dExt, dPop, dSetIx, ownQ, putO, dYes, dSeqI, dEnum, dRng1, wipeG, startG, List.map_cons, List.map_nil, List.length_cons, List.length_nil, List.replicate, List.cons_append, List.nil_append, List.getElem?_cons_zero, List.getElem?_cons_succ, List.set_cons_zero, List.set_cons_succ, Nat.reduceAdd, Nat.reduceSub, Nat.zero_add, ne_eq, reduceCtorEq, not_false_eq_true, true_and, if_true, if_false, Bool.false_eq_true, decide_eq_true_eq, decide_true, decide_false, Bool.not_true, Bool.not_false, ite_true, ite_false, reduceIte, Option.some.injEq, exists_eq_left', List.drop_succ_cons, List.drop_zero, ↓y_wdv, ↓y_wdo, ↓y_wds0, ↓y_wds1, ↓y_okv, ↓y_oko, ↓y_addi, ↓y_adds, ↓y_addt, ↓y_addl, ↓y_muli, ↓y_mull, ↓y_eqi, ↓y_eqs, ↓y_nei, ↓y_nes, ↓y_eqt, ↓y_eql, ↓y_lti, ↓y_fi, ↓y_fi0, ↓y_isb, ↓y_ixt, ↓y_ixl, ↓y_lent, ↓y_lenl, ↓y_int, ↓y_tupl, ↓y_tupt, ↓y_lstt, ↓y_lstl, ↓y_slt, ↓y_sll, ↓y_repr, ↓y_at0, ↓y_at1, ↓y_at2, ↓y_at3, ↓y_at4, ↓y_st1, ↓y_st2, ↓y_st3, ↓y_st4, ↓y_exd, atI_0, atI_1, atI_2, atI_3, atI_4, cut_drop1]
    exact hq _ (by rfl)
  · simp only [dSeq, dRet, dRetN, dNext, dAndV, dOrV, dNotV, dIsi, dVar, dC, dUn, dOp, dCB, dCons, dNil, dTup, dLst, dTest, dAnd, dOr, dNot, dIf, dIfS, dAsg, dPar, dDrop, dAug, dAsgT, dgName, dgNil, dgCons, dgTup, dCall, dCallX, fInT, fIxT, dSl, dPart, dNoPart, dLenV, dIxV, dSlV, dApp, dExt, dPop, dSetIx, ownQ, putO, dYes, dSeqI, dEnum, dRng1, wipeG, startG, List.map_cons, List.map_nil, List.length_cons, List.length_nil, List.replicate, List.cons_append, List.nil_append, List.getElem?_cons_zero, List.getElem?_cons_succ, List.set_cons_zero, List.set_cons_succ, Nat.reduceAdd, Nat.reduceSub, Nat.zero_add, ne_eq, reduceCtorEq, not_false_eq_true, true_and, if_true, if_false, Bool.false_eq_true, decide_eq_true_eq, decide_true, decide_false, Bool.not_true, Bool.not_false, ite_true, ite_false, reduceIte, Option.some.injEq, exists_eq_left', List.drop_succ_cons, List.drop_zero, ↓y_wdv, ↓y_wdo, ↓y_wds0, ↓y_wds1, ↓y_okv, ↓y_oko, ↓y_addi, ↓y_adds, ↓y_addt, ↓y_addl, ↓y_muli, ↓y_mull, ↓y_eqi, ↓y_eqs, ↓y_nei, ↓y_nes, ↓y_eqt, ↓y_eql, ↓y_lti, ↓y_fi, ↓y_fi0, ↓y_isb, ↓y_ixt, ↓y_ixl, ↓y_lent, ↓y_lenl, ↓y_int, ↓y_tupl, ↓y_tupt, ↓y_lstt, ↓y_lstl, ↓y_slt, ↓y_sll, ↓y_repr, ↓y_at0, ↓y_at1, ↓y_at2, ↓y_at3, ↓y_at4, ↓y_st1, ↓y_st2, ↓y_st3, ↓y_st4, ↓y_exd, atI_0, atI_1, atI_2, atI_3, atI_4, cut_drop1]
    have hd := pre_deep [] d
    refine ⟨(pre [] d).map fun r => (r.1.length : Int), ?_, ?_, fun m hm hmax => ?_⟩
    · rw [List.map_map, List.map_map]
      refine List.map_congr_left fun r _ => ?_
      simp [rowD]
    · rw [List.length_map, pre_len]; exact nd_pos d
    · obtain ⟨r, hr, e2⟩ := hd.2
      obtain ⟨r2, hr2, rfl⟩ := List.mem_map.mp hm
      have a1 := hd.1 r2 hr2
      have a2 := hmax (r.1.length : Int) (List.mem_map.mpr ⟨r, hr, rfl⟩)
      simp only [List.length_nil, Nat.zero_add] at a1 e2
      have e3 : (1 + (r2.1.length : Int)) = (dp d : Int) := by omega
      simp only [dSeq, dRet, dRetN, dNext, dAndV, dOrV, dNotV, dIsi, dVar, dC, dUn, dOp, dCB, dCons, dNil, dTup, dLst, dTest, dAnd, dOr, dNot, dIf, dIfS, dAsg, dPar, dDrop, dAug, dAsgT, dgName, dgNil, dgCons, dgTup, dCall, dCallX, fInT, fIxT, dSl, dPart, dNoPart, dLenV, dIxV, dSlV, dApp, dExt, dPop, dSetIx, ownQ, putO, dYes, dSeqI, dEnum, dRng1, wipeG, startG, List.map_cons, List.map_nil, List.length_cons, List.length_nil, List.replicate, List.cons_append, List.nil_append, List.getElem?_cons_zero, List.getElem?_cons_succ, List.set_cons_zero, List.set_cons_succ, Nat.reduceAdd, Nat.reduceSub, Nat.zero_add, ne_eq, reduceCtorEq, not_false_eq_true, true_and, if_true, if_false, Bool.false_eq_true, decide_eq_true_eq, decide_true, decide_false, Bool.not_true, Bool.not_false, ite_true, ite_false, reduceIte, Option.some.injEq, exists_eq_left', List.drop_succ_cons, List.drop_zero, ↓y_wdv, ↓y_wdo, ↓y_wds0, ↓y_wds1, ↓y_okv, ↓y_oko, ↓y_addi, ↓y_adds, ↓y_addt, ↓y_addl, ↓y_muli, ↓y_mull, ↓y_eqi, ↓y_eqs, ↓y_nei, ↓y_nes, ↓y_eqt, ↓y_eql, ↓y_lti, ↓y_fi, ↓y_fi0, ↓y_isb, ↓y_ixt, ↓y_ixl, ↓y_lent, ↓y_lenl, ↓y_int, ↓y_tupl, ↓y_tupt, ↓y_lstt, ↓y_lstl, ↓y_slt, ↓y_sll, ↓y_repr, ↓y_at0, ↓y_at1, ↓y_at2, ↓y_at3, ↓y_at4, ↓y_st1, ↓y_st2, ↓y_st3, ↓y_st4, ↓y_exd, atI_0, atI_1, atI_2, atI_3, atI_4, cut_drop1]
      rw [e3]
      exact h
end K00

namespace K00
open PySem PySem.Spec PyProof.Rows L2 LamX DL
def db_signs_in0 (sp_check_tree : SpP) (sp_raw_signs : SpP)  : DS := (dSeq (dDrop (dCall sp_check_tree (dCons (dVar 0) dNil)))
    (dRet (dCall sp_raw_signs (dCons (dVar 0) dNil))))
theorem c_signs_in0 {P : Program} {w : World} {K : PySem.W.Frag} {mg : Str → Option Value} {base : Heap} {T : List (Addr × Str)} {k : Nat} {sp_check_tree : SpP} {sp_raw_signs : SpP} {sp : SpP} (D : DefAt K mg "signs_in" s_signs_in ["tree"]) (B : Bi mg builtL) (F_check_tree : Cal P w K mg base CX0 k "check_tree" (liftP K T sp_check_tree)) (F_raw_signs : Cal P w K mg base CX0 k "raw_signs" (liftP K T sp_raw_signs)) (hlen : ∀ as Q R, sp as Q R → as.length = 1) (law : ∀ as Q0 R0, sp as Q0 R0 → db_signs_in0 sp_check_tree sp_raw_signs  { nx := fun _ => Q0 (.val .none), rt := fun g _ => g ≠ .unk ∧ Q0 g } (startG 1 as)) :
    Cal P w K mg base CX0 (k + 1) "signs_in" (liftP K T sp) := by
  have sc := sc_signs_in
  have hj : k ≤ k := by omega
  exact D.mkP sc _ hlen (fun f cdv A outer s H E hr as Q0 R0 h => ⟨_, _, (by exact (ss_cons (s_expr (k_c F_check_tree hr (as_cons (e_var 0) as_nil) hj))
    (ss_one (s_ret (k_c F_raw_signs hr (as_cons (e_var 0) as_nil) hj))))), law as Q0 R0 h⟩)
theorem l_signs_in0 : ∀ as Q0 R0, spSigns as Q0 R0 → db_signs_in0 spCheck0 spRawSg { nx := fun _ => Q0 (.val .none), rt := fun g _ => g ≠ .unk ∧ Q0 g } (startG 1 as) := by
  rintro _ Q0 R0 ⟨d, rfl, e, h⟩
  obtain ⟨h1, _, h3⟩ := isTree_iff.mp e
  refine ⟨d, rfl, e, d, rfl, h1, h3, ?_⟩
  exact ⟨(fun z => nomatch z), h⟩
end K00

namespace K00
open PySem PySem.Spec PyProof.Rows L2 LamX DL
def db_nodes_manyX (sp_check_tree : SpP)  : DS := (dSeq (dDrop (dCallX sp_check_tree (dCons (dVar 0) dNil)))
    dNever)
theorem c_nodes_manyX {P : Program} {w : World} {K : PySem.W.Frag} {mg : Str → Option Value} {base : Heap} {T : List (Addr × Str)} {k : Nat} {sp_check_tree : SpP} {sp : SpP} (D : DefAt K mg "nodes_many" s_nodes_many ["tree"]) (B : Bi mg builtL) (F_check_tree : Cal P w K mg base (L2.CX P w) k "check_tree" (liftP K T sp_check_tree)) (hlen : ∀ as Q R, sp as Q R → as.length = 1) (law : ∀ as Q0 R0, sp as Q0 R0 → db_nodes_manyX sp_check_tree  { nx := fun _ => Q0 (.val .none), rt := fun g _ => g ≠ .unk ∧ Q0 g, xc := fun c _ => R0 c } (startG 1 as)) :
    Cal P w K mg base (L2.CX P w) (k + 1) "nodes_many" (liftP K T sp) := by
  have sc := sc_nodes_many
  have hj : k ≤ k := by omega
  exact D.mkX sc _ hlen (fun f cdv A outer s H E hr tk as Q0 R0 h => ⟨_, _, (by exact (ss_cons (s_expr (k_cX F_check_tree tk hr (as_cons (e_var 0) as_nil) hj))
    ss_never)), law as Q0 R0 h⟩)
theorem l_nodes_manyX {c : Addr} : ∀ as Q0 R0, (spBad c) as Q0 R0 → db_nodes_manyX (spBad c) { nx := fun _ => Q0 (.val .none), rt := fun g _ => g ≠ .unk ∧ Q0 g, xc := fun c _ => R0 c } (startG 1 as) := by
  rintro _ Q0 R0 ⟨d, rfl, e, h⟩
  exact ⟨d, rfl, e, h⟩
end K00

namespace K00
open PySem PySem.Spec PyProof.Rows L2 LamX DL
def db_deepX (sp_check_tree : SpP)  : DS := (dSeq (dDrop (dCallX sp_check_tree (dCons (dVar 0) dNil)))
    dNever)
theorem c_deepX {P : Program} {w : World} {K : PySem.W.Frag} {mg : Str → Option Value} {base : Heap} {T : List (Addr × Str)} {k : Nat} {sp_check_tree : SpP} {sp : SpP} (D : DefAt K mg "deep" s_deep ["tree"]) (B : Bi mg builtL) (F_check_tree : Cal P w K mg base (L2.CX P w) k "check_tree" (liftP K T sp_check_tree)) (hlen : ∀ as Q R, sp as Q R → as.length = 1) (law : ∀ as Q0 R0, sp as Q0 R0 → db_deepX sp_check_tree  { nx := fun _ => Q0 (.val .none), rt := fun g _ => g ≠ .unk ∧ Q0 g, xc := fun c _ => R0 c } (startG 3 as)) :
    Cal P w K mg base (L2.CX P w) (k + 1) "deep" (liftP K T sp) := by
  have sc := sc_deep
  have hj : k ≤ k := by omega
  exact D.mkX sc _ hlen (fun f cdv A outer s H E hr tk as Q0 R0 h => ⟨_, _, (by exact (ss_cons (s_expr (k_cX F_check_tree tk hr (as_cons (e_var 0) as_nil) hj))
    ss_never)), law as Q0 R0 h⟩)
theorem l_deepX {c : Addr} : ∀ as Q0 R0, (spBad c) as Q0 R0 → db_deepX (spBad c) { nx := fun _ => Q0 (.val .none), rt := fun g _ => g ≠ .unk ∧ Q0 g, xc := fun c _ => R0 c } (startG 3 as) := by
  rintro _ Q0 R0 ⟨d, rfl, e, h⟩
  exact ⟨d, rfl, e, h⟩
end K00

namespace K00
open PySem PySem.Spec PyProof.Rows L2 LamX DL
def db_signs_inX (sp_check_tree : SpP)  : DS := (dSeq (dDrop (dCallX sp_check_tree (dCons (dVar 0) dNil)))
    dNever)
theorem c_signs_inX {P : Program} {w : World} {K : PySem.W.Frag} {mg : Str → Option Value} {base : Heap} {T : List (Addr × Str)} {k : Nat} {sp_check_tree : SpP} {sp : SpP} (D : DefAt K mg "signs_in" s_signs_in ["tree"]) (B : Bi mg builtL) (F_check_tree : Cal P w K mg base (L2.CX P w) k "check_tree" (liftP K T sp_check_tree)) (hlen : ∀ as Q R, sp as Q R → as.length = 1) (law : ∀ as Q0 R0, sp as Q0 R0 → db_signs_inX sp_check_tree  { nx := fun _ => Q0 (.val .none), rt := fun g _ => g ≠ .unk ∧ Q0 g, xc := fun c _ => R0 c } (startG 1 as)) :
    Cal P w K mg base (L2.CX P w) (k + 1) "signs_in" (liftP K T sp) := by
  have sc := sc_signs_in
  have hj : k ≤ k := by omega
  exact D.mkX sc _ hlen (fun f cdv A outer s H E hr tk as Q0 R0 h => ⟨_, _, (by exact (ss_cons (s_expr (k_cX F_check_tree tk hr (as_cons (e_var 0) as_nil) hj))
    ss_never)), law as Q0 R0 h⟩)
theorem l_signs_inX {c : Addr} : ∀ as Q0 R0, (spBad c) as Q0 R0 → db_signs_inX (spBad c) { nx := fun _ => Q0 (.val .none), rt := fun g _ => g ≠ .unk ∧ Q0 g, xc := fun c _ => R0 c } (startG 1 as) := by
  rintro _ Q0 R0 ⟨d, rfl, e, h⟩
  exact ⟨d, rfl, e, h⟩
end K00

namespace K00
open PySem PySem.Spec PyProof.Rows L2 LamX DL
def db_paths_ofX (sp_check_tree : SpP)  : DS := (dSeq (dDrop (dCallX sp_check_tree (dCons (dVar 0) dNil)))
    dNever)
theorem c_paths_ofX {P : Program} {w : World} {K : PySem.W.Frag} {mg : Str → Option Value} {base : Heap} {T : List (Addr × Str)} {k : Nat} {sp_check_tree : SpP} {sp : SpP} (D : DefAt K mg "paths_of" s_paths_of ["tree"]) (B : Bi mg builtL) (F_check_tree : Cal P w K mg base (L2.CX P w) k "check_tree" (liftP K T sp_check_tree)) (hlen : ∀ as Q R, sp as Q R → as.length = 1) (law : ∀ as Q0 R0, sp as Q0 R0 → db_paths_ofX sp_check_tree  { nx := fun _ => Q0 (.val .none), rt := fun g _ => g ≠ .unk ∧ Q0 g, xc := fun c _ => R0 c } (startG 3 as)) :
    Cal P w K mg base (L2.CX P w) (k + 1) "paths_of" (liftP K T sp) := by
  have sc := sc_paths_of
  have hj : k ≤ k := by omega
  exact D.mkX sc _ hlen (fun f cdv A outer s H E hr tk as Q0 R0 h => ⟨_, _, (by exact (ss_cons (s_expr (k_cX F_check_tree tk hr (as_cons (e_var 0) as_nil) hj))
    ss_never)), law as Q0 R0 h⟩)
theorem l_paths_ofX {c : Addr} : ∀ as Q0 R0, (spBad c) as Q0 R0 → db_paths_ofX (spBad c) { nx := fun _ => Q0 (.val .none), rt := fun g _ => g ≠ .unk ∧ Q0 g, xc := fun c _ => R0 c } (startG 3 as) := by
  rintro _ Q0 R0 ⟨d, rfl, e, h⟩
  exact ⟨d, rfl, e, h⟩
end K00

namespace K00
open PySem PySem.Spec PyProof.Rows L2 LamX DL
def db_mirroredX (sp_check_tree : SpP)  : DS := (dSeq (dDrop (dCallX sp_check_tree (dCons (dVar 0) dNil)))
    dNever)
theorem c_mirroredX {P : Program} {w : World} {K : PySem.W.Frag} {mg : Str → Option Value} {base : Heap} {T : List (Addr × Str)} {k : Nat} {sp_check_tree : SpP} {sp : SpP} (D : DefAt K mg "mirrored" s_mirrored ["tree"]) (B : Bi mg builtL) (F_check_tree : Cal P w K mg base (L2.CX P w) k "check_tree" (liftP K T sp_check_tree)) (hlen : ∀ as Q R, sp as Q R → as.length = 1) (law : ∀ as Q0 R0, sp as Q0 R0 → db_mirroredX sp_check_tree  { nx := fun _ => Q0 (.val .none), rt := fun g _ => g ≠ .unk ∧ Q0 g, xc := fun c _ => R0 c } (startG 1 as)) :
    Cal P w K mg base (L2.CX P w) (k + 1) "mirrored" (liftP K T sp) := by
  have sc := sc_mirrored
  have hj : k ≤ k := by omega
  exact D.mkX sc _ hlen (fun f cdv A outer s H E hr tk as Q0 R0 h => ⟨_, _, (by exact (ss_cons (s_expr (k_cX F_check_tree tk hr (as_cons (e_var 0) as_nil) hj))
    ss_never)), law as Q0 R0 h⟩)
theorem l_mirroredX {c : Addr} : ∀ as Q0 R0, (spBad c) as Q0 R0 → db_mirroredX (spBad c) { nx := fun _ => Q0 (.val .none), rt := fun g _ => g ≠ .unk ∧ Q0 g, xc := fun c _ => R0 c } (startG 1 as) := by
  rintro _ Q0 R0 ⟨d, rfl, e, h⟩
  exact ⟨d, rfl, e, h⟩
end K00

namespace K00
open PySem PySem.Spec PyProof.Rows L2 LamX DL
def db_tree_textX (sp_check_tree : SpP)  : DS := (dSeq (dDrop (dCallX sp_check_tree (dCons (dVar 0) dNil)))
    dNever)
theorem c_tree_textX {P : Program} {w : World} {K : PySem.W.Frag} {mg : Str → Option Value} {base : Heap} {T : List (Addr × Str)} {k : Nat} {sp_check_tree : SpP} {sp : SpP} (D : DefAt K mg "tree_text" s_tree_text ["tree"]) (B : Bi mg builtL) (F_check_tree : Cal P w K mg base (L2.CX P w) k "check_tree" (liftP K T sp_check_tree)) (hlen : ∀ as Q R, sp as Q R → as.length = 1) (law : ∀ as Q0 R0, sp as Q0 R0 → db_tree_textX sp_check_tree  { nx := fun _ => Q0 (.val .none), rt := fun g _ => g ≠ .unk ∧ Q0 g, xc := fun c _ => R0 c } (startG 1 as)) :
    Cal P w K mg base (L2.CX P w) (k + 1) "tree_text" (liftP K T sp) := by
  have sc := sc_tree_text
  have hj : k ≤ k := by omega
  exact D.mkX sc _ hlen (fun f cdv A outer s H E hr tk as Q0 R0 h => ⟨_, _, (by exact (ss_cons (s_expr (k_cX F_check_tree tk hr (as_cons (e_var 0) as_nil) hj))
    ss_never)), law as Q0 R0 h⟩)
theorem l_tree_textX {c : Addr} : ∀ as Q0 R0, (spBad c) as Q0 R0 → db_tree_textX (spBad c) { nx := fun _ => Q0 (.val .none), rt := fun g _ => g ≠ .unk ∧ Q0 g, xc := fun c _ => R0 c } (startG 1 as) := by
  rintro _ Q0 R0 ⟨d, rfl, e, h⟩
  exact ⟨d, rfl, e, h⟩
end K00

namespace K00
open PySem PySem.Spec PyProof.Rows L2 LamX DL
def db_lines_ofX (sp_check_tree : SpP)  : DS := (dSeq (dDrop (dCallX sp_check_tree (dCons (dVar 0) dNil)))
    dNever)
theorem c_lines_ofX {P : Program} {w : World} {K : PySem.W.Frag} {mg : Str → Option Value} {base : Heap} {T : List (Addr × Str)} {k : Nat} {sp_check_tree : SpP} {sp : SpP} (D : DefAt K mg "lines_of" s_lines_of ["tree"]) (B : Bi mg builtL) (F_check_tree : Cal P w K mg base (L2.CX P w) k "check_tree" (liftP K T sp_check_tree)) (hlen : ∀ as Q R, sp as Q R → as.length = 1) (law : ∀ as Q0 R0, sp as Q0 R0 → db_lines_ofX sp_check_tree  { nx := fun _ => Q0 (.val .none), rt := fun g _ => g ≠ .unk ∧ Q0 g, xc := fun c _ => R0 c } (startG 3 as)) :
    Cal P w K mg base (L2.CX P w) (k + 1) "lines_of" (liftP K T sp) := by
  have sc := sc_lines_of
  have hj : k ≤ k := by omega
  exact D.mkX sc _ hlen (fun f cdv A outer s H E hr tk as Q0 R0 h => ⟨_, _, (by exact (ss_cons (s_expr (k_cX F_check_tree tk hr (as_cons (e_var 0) as_nil) hj))
    ss_never)), law as Q0 R0 h⟩)
theorem l_lines_ofX {c : Addr} : ∀ as Q0 R0, (spBad c) as Q0 R0 → db_lines_ofX (spBad c) { nx := fun _ => Q0 (.val .none), rt := fun g _ => g ≠ .unk ∧ Q0 g, xc := fun c _ => R0 c } (startG 3 as) := by
  rintro _ Q0 R0 ⟨d, rfl, e, h⟩
  exact ⟨d, rfl, e, h⟩
end K00

namespace K00
open PySem PySem.Spec PyProof.Rows L2 LamX DL
def db_ulaw_draw   : DS := (dSeq (dIfS (dAnd (dTest (dOp fEq (dIxV 0 (dC (.int 2))) (dC (.int 0)))) (dTest (dOp fLt (dIxV 0 (dC (.int 1))) (dCB fLen (dCons (dIxV 0 (dC (.int 0))) dNil)))))
    (dSeq (dAsg 3 (dOp fIx (dIxV 0 (dC (.int 0))) (dIxV 0 (dC (.int 1)))))
    (dSeq (dSetIx 0 (dC (.int 1)) (dOp fAdd (dIxV 0 (dC (.int 1))) (dC (.int 1))))
    (dSeq (dSetIx 0 (dC (.int 3)) (dOp (fI (fun _ j => 0 < j) fun i j => .int (i % j)) (dCB fInt (dCons (dOp fAdd (dOp fAdd (dOp fMul (dIxV 0 (dC (.int 3))) (dC (.int 48271))) (dVar 3)) (dC (.int 11))) dNil)) (dC (.int 2147483647))))
    (dSetIx 0 (dC (.int 2)) (dIf (dTest (dOp (fI0 fun i j => .bool (decide (j ≤ i))) (dVar 3) (dOp (fI CPow fun i j => .int (i ^ j.toNat)) (dC (.int 10)) (dC (.int 18))))) (dVar 3) (dC (.int 0)))))))
    dNext)
    (dSeq (dIfS (dTest (dOp (fI0 fun i j => .bool (decide (j < i))) (dIxV 0 (dC (.int 2))) (dC (.int 0))))
    (dSeq (dAsg 4 (dOp (fI (fun _ j => 0 < j) fun i j => .int (i % j)) (dCB fInt (dCons (dIxV 0 (dC (.int 2))) dNil)) (dVar 1)))
    (dSeq (dSetIx 0 (dC (.int 2)) (dOp (fI CDiv fun i j => .int (i / j)) (dIxV 0 (dC (.int 2))) (dVar 1)))
    (dRet (dVar 4))))
    dNext)
    (dSeq (dSetIx 0 (dC (.int 4)) (dOp fAdd (dIxV 0 (dC (.int 4))) (dC (.int 1))))
    (dSeq (dAsg 2 (dOp (fI (fun _ j => 0 < j) fun i j => .int (i % j)) (dCB fInt (dCons (dOp fMul (dOp fAdd (dIxV 0 (dC (.int 3))) (dOp fMul (dC (.int 7919)) (dIxV 0 (dC (.int 4))))) (dC (.int 69621))) dNil)) (dC (.int 2147483629))))
    (dSeq (dAsg 2 (dOp (fI (fun _ j => 0 < j) fun i j => .int (i % j)) (dCB fInt (dCons (dOp fMul (dVar 2) (dOp fAdd (dOp (fI CDiv fun i j => .int (i / j)) (dVar 2) (dC (.int 1013))) (dC (.int 48271)))) dNil)) (dC (.int 2147483647))))
    (dSeq (dAsg 2 (dOp (fI (fun _ j => 0 < j) fun i j => .int (i % j)) (dCB fInt (dCons (dOp fMul (dVar 2) (dOp fAdd (dOp (fI CDiv fun i j => .int (i / j)) (dVar 2) (dC (.int 2011))) (dC (.int 16807)))) dNil)) (dC (.int 2147483587))))
    (dRet (dOp (fI (fun _ j => 0 < j) fun i j => .int (i % j)) (dCB fInt (dCons (dOp (fI CDiv fun i j => .int (i / j)) (dVar 2) (dC (.int 32))) dNil)) (dVar 1)))))))))
theorem c_ulaw_draw {P : Program} {w : World} {K : PySem.W.Frag} {mg : Str → Option Value} {base : Heap} {T : List (Addr × Str)} {k : Nat} {sp : SpH} (D : DefAt K mg "_law_draw" s_ulaw_draw ["hand", "many"]) (B : Bi mg builtL) (hlen : ∀ hd as Q R, sp hd as Q R → as.length + 1 = 2) (law : ∀ hd as Q0 R0, sp hd as Q0 R0 → db_ulaw_draw   { nx := fun Γ => ownQ Γ 0 fun hd' => Γ[0]? = some (.own true hd') ∧ Q0 (.val .none) hd', rt := fun g Γ => g ≠ .unk ∧ ownQ Γ 0 fun hd' => Γ[0]? = some (.own true hd') ∧ Q0 g hd' } (.own true hd :: startG 4 as)) :
    Cal P w K mg base CX0 (k + 1) "_law_draw" (liftH K T sp) := by
  have sc := sc_ulaw_draw
  have hj : k ≤ k := by omega
  exact D.mkH sc _ hlen (fun f cdv A outer s H E hr hd as Q0 R0 h => ⟨_, _, (by exact (ss_cons (s_if (t_bool (w_and (t_cmp (k_eq K hr.units) (k_ixV K 0 (e_int)) (e_int)) (w_and1 (t_cmp c_lt (k_ixV K 0 (e_int)) (k_cb (q_len K) PySem.boot_len (B "len" (by decide)) (as_cons (k_ixV K 0 (e_int)) as_nil)))))) (ss_cons (s_set 3 sc.nd (k_ix K (k_ixV K 0 (e_int)) (k_ixV K 0 (e_int))))
    (ss_cons (s_setIx 0 (e_int) (e_bin (k_add K) (k_ixV K 0 (e_int)) (e_int)))
    (ss_cons (s_setIx 0 (e_int) (e_bin b_mod (k_ct (q_int) PyProof.Rows.boot_int (B "int" (by decide)) (as_cons (e_bin (k_add K) (e_bin (k_add K) (e_bin (k_mul K) (k_ixV K 0 (e_int)) (e_int)) (e_var 3)) (e_int)) as_nil)) (e_int)))
    (ss_one (s_setIx 0 (e_int) (e_ife (t_cmp c_ge (e_var 3) (e_bin b_pow (e_int) (e_int))) (e_var 3) (e_int))))))) ss_nil)
    (ss_cons (s_if (t_cmp c_gt (k_ixV K 0 (e_int)) (e_int)) (ss_cons (s_set 4 sc.nd (e_bin b_mod (k_ct (q_int) PyProof.Rows.boot_int (B "int" (by decide)) (as_cons (k_ixV K 0 (e_int)) as_nil)) (e_var 1)))
    (ss_cons (s_setIx 0 (e_int) (e_bin b_fdiv (k_ixV K 0 (e_int)) (e_var 1)))
    (ss_one (s_ret (e_var 4))))) ss_nil)
    (ss_cons (s_setIx 0 (e_int) (e_bin (k_add K) (k_ixV K 0 (e_int)) (e_int)))
    (ss_cons (s_set 2 sc.nd (e_bin b_mod (k_ct (q_int) PyProof.Rows.boot_int (B "int" (by decide)) (as_cons (e_bin (k_mul K) (e_bin (k_add K) (k_ixV K 0 (e_int)) (e_bin (k_mul K) (e_int) (k_ixV K 0 (e_int)))) (e_int)) as_nil)) (e_int)))
    (ss_cons (s_set 2 sc.nd (e_bin b_mod (k_ct (q_int) PyProof.Rows.boot_int (B "int" (by decide)) (as_cons (e_bin (k_mul K) (e_var 2) (e_bin (k_add K) (e_bin b_fdiv (e_var 2) (e_int)) (e_int))) as_nil)) (e_int)))
    (ss_cons (s_set 2 sc.nd (e_bin b_mod (k_ct (q_int) PyProof.Rows.boot_int (B "int" (by decide)) (as_cons (e_bin (k_mul K) (e_var 2) (e_bin (k_add K) (e_bin b_fdiv (e_var 2) (e_int)) (e_int))) as_nil)) (e_int)))
    (ss_one (s_ret (e_bin b_mod (k_ct (q_int) PyProof.Rows.boot_int (B "int" (by decide)) (as_cons (e_bin b_fdiv (e_var 2) (e_int)) as_nil)) (e_var 1))))))))))), law hd as Q0 R0 h⟩)
theorem l_ulaw_draw  : ∀ hd as Q0 R0, spDraw hd as Q0 R0 → db_ulaw_draw  { nx := fun Γ => ownQ Γ 0 fun hd' => Γ[0]? = some (.own true hd') ∧ Q0 (.val .none) hd', rt := fun g Γ => g ≠ .unk ∧ ownQ Γ 0 fun hd' => Γ[0]? = some (.own true hd') ∧ Q0 g hd' } (.own true hd :: startG 4 as) := by
  rintro hd _ Q0 R0 ⟨m, rfl, hm0, hm1, ⟨cs, p, b, r, t, rfl, hp, hb⟩, h⟩
  unfold db_ulaw_draw
  refine seq_ifP (fun Γ => ∃ (p b r : Int) (g3 : G), Γ = [.own true [.list (cs.map .int), .int p, .int b, .int r, .int t], .val (.int m), .unk, g3, .unk] ∧ 0 ≤ p ∧ 0 ≤ b) (decide (b = 0) && decide (p < (cs.length : Int))) (fun Q hq => ?_) (fun hc K hK => ?_) (fun _ => ⟨p, b, r, .unk, rfl, hp, hb⟩) ?_
  · simp only [List.length_map, dSeq, dRet, dRetN, dNext, dAndV, dOrV, dNotV, dIsi, dVar, dC, dUn, dOp, dCB, dCons, dNil, dTup, dLst, dTest, dAnd, dOr, dNot, dIf, dIfS, dAsg, dPar, dDrop, dAug, dAsgT, dgName, dgNil, dgCons, dgTup, dCall, dCallX, fInT, fIxT, dSl, dPart, dNoPart, dLenV, dIxV, dSlV, dApp, dExt, dPop, dSetIx, ownQ, putO, dYes, dSeqI, dEnum, dRng1, wipeG, startG, List.map_cons, List.map_nil, List.length_cons, List.length_nil, List.replicate, List.cons_append, List.nil_append, List.getElem?_cons_zero, List.getElem?_cons_succ, List.set_cons_zero, List.set_cons_succ, Nat.reduceAdd, Nat.reduceSub, Nat.zero_add, ne_eq, reduceCtorEq, not_false_eq_true, true_and, if_true, if_false, Bool.false_eq_true, decide_eq_true_eq, decide_true, decide_false, Bool.not_true, Bool.not_false, ite_true, ite_false, reduceIte, Option.some.injEq, exists_eq_left', List.drop_succ_cons, List.drop_zero, ↓y_wdv, ↓y_wdo, ↓y_wds0, ↓y_wds1, ↓y_okv, ↓y_oko, ↓y_addi, ↓y_adds, ↓y_addt, ↓y_addl, ↓y_muli, ↓y_mull, ↓y_eqi, ↓y_eqs, ↓y_nei, ↓y_nes, ↓y_eqt, ↓y_eql, ↓y_lti, ↓y_fi, ↓y_fi0, ↓y_isb, ↓y_ixt, ↓y_ixl, ↓y_lent, ↓y_lenl, ↓y_int, ↓y_tupl, ↓y_tupt, ↓y_lstt, ↓y_lstl, ↓y_slt, ↓y_sll, ↓y_repr, ↓y_at0, ↓y_at1, ↓y_at2, ↓y_at3, ↓y_at4, ↓y_st1, ↓y_st2, ↓y_st3, ↓y_st4, ↓y_exd, atI_0, atI_1, atI_2, atI_3, atI_4, cut_drop1]
    by_cases hb0 : b = 0
    · rw [if_pos hb0]
      rw [decide_eq_true hb0, Bool.true_and] at hq
      exact hq
    · rw [if_neg hb0]
      rw [decide_eq_false hb0, Bool.false_and] at hq
      exact hq
  · have hpl : p < (cs.length : Int) := by simp at hc; exact hc.2
    obtain ⟨k, rfl⟩ := Int.eq_ofNat_of_zero_le hp
    have hk : k < cs.length := by omega
    have hat : atI (cs.map PyData.int) (k : Int) = some (.int cs[k]) := L2.atI_nat (by rw [List.getElem?_map, List.getElem?_eq_getElem hk]; rfl)
    have hix : ∀ Q : G → Prop, fIx (.list (cs.map PyData.int)) (.int (k : Int)) Q = Q (.val (.int cs[k])) := fun Q => by rw [y_ixl, hat]; exact y_exd
    simp only [↓hix, dSeq, dRet, dRetN, dNext, dAndV, dOrV, dNotV, dIsi, dVar, dC, dUn, dOp, dCB, dCons, dNil, dTup, dLst, dTest, dAnd, dOr, dNot, dIf, dIfS, dAsg, dPar, dDrop, dAug, dAsgT, dgName, dgNil, dgCons, dgTup, dCall, dCallX, fInT, fIxT, dSl, dPart, dNoPart, dLenV, dIxV, dSlV, dApp, dExt, dPop, dSetIx, ownQ, putO, dYes, dSeqI, dEnum, dRng1, wipeG, startG, List.map_cons, List.map_nil, List.length_cons, List.length_nil, List.replicate, List.cons_append, List.nil_append, List.getElem?_cons_zero, List.getElem?_cons_succ, List.set_cons_zero, List.set_cons_succ, Nat.reduceAdd, Nat.reduceSub, Nat.zero_add, ne_eq, reduceCtorEq, not_false_eq_true, true_and, if_true, if_false, Bool.false_eq_true, decide_eq_true_eq, decide_true, decide_false, Bool.not_true, Bool.not_false, ite_true, ite_false, reduceIte, Option.some.injEq, exists_eq_left', List.drop_succ_cons, List.drop_zero, ↓y_wdv, ↓y_wdo, ↓y_wds0, ↓y_wds1, ↓y_okv, ↓y_oko, ↓y_addi, ↓y_adds, ↓y_addt, ↓y_addl, ↓y_muli, ↓y_mull, ↓y_eqi, ↓y_eqs, ↓y_nei, ↓y_nes, ↓y_eqt, ↓y_eql, ↓y_lti, ↓y_fi, ↓y_fi0, ↓y_isb, ↓y_ixt, ↓y_ixl, ↓y_lent, ↓y_lenl, ↓y_int, ↓y_tupl, ↓y_tupt, ↓y_lstt, ↓y_lstl, ↓y_slt, ↓y_sll, ↓y_repr, ↓y_at0, ↓y_at1, ↓y_at2, ↓y_at3, ↓y_at4, ↓y_st1, ↓y_st2, ↓y_st3, ↓y_st4, ↓y_exd, atI_0, atI_1, atI_2, atI_3, atI_4, cut_drop1]
    refine ⟨.inr ⟨by decide, by decide⟩, by decide, ⟨by decide, by decide, by decide⟩, ?_⟩
    by_cases hc2 : (10 : Int) ^ (18 : Int).toNat ≤ cs[k]
    · rw [if_pos hc2]
      refine hK _ ⟨_, _, _, _, rfl, by omega, ?_⟩
      exact Int.le_trans (by decide) hc2
    · rw [if_neg hc2]
      exact hK _ ⟨_, _, _, _, rfl, by omega, Int.le_refl _⟩
  · rintro Γ ⟨p, b, r, g3, rfl, hp, hb⟩
    simp only [dSeq, dRet, dRetN, dNext, dAndV, dOrV, dNotV, dIsi, dVar, dC, dUn, dOp, dCB, dCons, dNil, dTup, dLst, dTest, dAnd, dOr, dNot, dIf, dIfS, dAsg, dPar, dDrop, dAug, dAsgT, dgName, dgNil, dgCons, dgTup, dCall, dCallX, fInT, fIxT, dSl, dPart, dNoPart, dLenV, dIxV, dSlV, dApp, dExt, dPop, dSetIx, ownQ, putO, dYes, dSeqI, dEnum, dRng1, wipeG, startG, List.map_cons, List.map_nil, List.length_cons, List.length_nil, List.replicate, List.cons_append, List.nil_append, List.getElem?_cons_zero, List.getElem?_cons_succ, List.set_cons_zero, List.set_cons_succ, Nat.reduceAdd, Nat.reduceSub, Nat.zero_add, ne_eq, reduceCtorEq, not_false_eq_true, true_and, if_true, if_false, Bool.false_eq_true, decide_eq_true_eq, decide_true, decide_false, Bool.not_true, Bool.not_false, ite_true, ite_false, reduceIte, Option.some.injEq, exists_eq_left', List.drop_succ_cons, List.drop_zero, ↓y_wdv, ↓y_wdo, ↓y_wds0, ↓y_wds1, ↓y_okv, ↓y_oko, ↓y_addi, ↓y_adds, ↓y_addt, ↓y_addl, ↓y_muli, ↓y_mull, ↓y_eqi, ↓y_eqs, ↓y_nei, ↓y_nes, ↓y_eqt, ↓y_eql, ↓y_lti, ↓y_fi, ↓y_fi0, ↓y_isb, ↓y_ixt, ↓y_ixl, ↓y_lent, ↓y_lenl, ↓y_int, ↓y_tupl, ↓y_tupt, ↓y_lstt, ↓y_lstl, ↓y_slt, ↓y_sll, ↓y_repr, ↓y_at0, ↓y_at1, ↓y_at2, ↓y_at3, ↓y_at4, ↓y_st1, ↓y_st2, ↓y_st3, ↓y_st4, ↓y_exd, atI_0, atI_1, atI_2, atI_3, atI_4, cut_drop1]
    by_cases h2 : 0 < b
    · rw [if_pos h2]
      refine ⟨hm0, ⟨hm0, hm1⟩, ?_⟩
      exact h _ _ (Int.emod_nonneg _ (by omega)) (Int.emod_lt_of_pos _ hm0) ⟨cs, p, b / m, r, t, rfl, hp, Int.ediv_nonneg hb (by omega)⟩
    · rw [if_neg h2]
      have n1 : ∀ x : Int, 0 ≤ x % 2147483629 ∧ x % 2147483629 < 2147483648 := fun x => ⟨Int.emod_nonneg _ (by decide), by have := Int.emod_lt_of_pos x (show (0 : Int) < 2147483629 by decide); omega⟩
      have n2 : ∀ x : Int, 0 ≤ x % 2147483647 ∧ x % 2147483647 < 2147483648 := fun x => ⟨Int.emod_nonneg _ (by decide), by have := Int.emod_lt_of_pos x (show (0 : Int) < 2147483647 by decide); omega⟩
      have c1 : ∀ x y : Int, 0 ≤ x ∧ x < 2147483648 → CMul x y := fun x y h => .inl ⟨by omega, by omega⟩
      refine ⟨.inl ⟨by decide, by decide⟩, .inr ⟨by decide, by decide⟩, by decide, ⟨by decide, by decide⟩, c1 _ _ (n1 _), by decide, ⟨by decide, by decide⟩, c1 _ _ (n2 _), by decide, ⟨by decide, by decide⟩, hm0, ?_⟩
      exact h _ _ (Int.emod_nonneg _ (by omega)) (Int.emod_lt_of_pos _ hm0) ⟨cs, p, b, r, t + 1, rfl, hp, hb⟩
end K00

namespace K00
open PySem PySem.Spec PyProof.Rows L2 LamX DL
def db_ulaw_some (sp_ulaw_draw : SpH)  : DS := (dRet (dOp fIx (dVar 1) (dCallH sp_ulaw_draw 0 (dCons (dCB fLen (dCons (dVar 1) dNil)) dNil))))
theorem c_ulaw_some {P : Program} {w : World} {K : PySem.W.Frag} {mg : Str → Option Value} {base : Heap} {T : List (Addr × Str)} {k : Nat} {sp_ulaw_draw : SpH} {sp : SpH} (D : DefAt K mg "_law_some" s_ulaw_some ["hand", "things"]) (B : Bi mg builtL) (F_ulaw_draw : Cal P w K mg base CX0 k "_law_draw" (liftH K T sp_ulaw_draw)) (hlen : ∀ hd as Q R, sp hd as Q R → as.length + 1 = 2) (law : ∀ hd as Q0 R0, sp hd as Q0 R0 → db_ulaw_some sp_ulaw_draw  { nx := fun Γ => ownQ Γ 0 fun hd' => Γ[0]? = some (.own true hd') ∧ Q0 (.val .none) hd', rt := fun g Γ => g ≠ .unk ∧ ownQ Γ 0 fun hd' => Γ[0]? = some (.own true hd') ∧ Q0 g hd' } (.own true hd :: startG 1 as)) :
    Cal P w K mg base CX0 (k + 1) "_law_some" (liftH K T sp) := by
  have sc := sc_ulaw_some
  have hj : k ≤ k := by omega
  exact D.mkH sc _ hlen (fun f cdv A outer s H E hr hd as Q0 R0 h => ⟨_, _, (by exact (ss_one (s_ret (k_ix K (e_var 1) (k_cH 0 F_ulaw_draw hr (as_cons (k_cb (q_len K) PySem.boot_len (B "len" (by decide)) (as_cons (e_var 1) as_nil)) as_nil) hj))))), law hd as Q0 R0 h⟩)
theorem l_ulaw_some  : ∀ hd as Q0 R0, spSome hd as Q0 R0 → db_ulaw_some spDraw { nx := fun Γ => ownQ Γ 0 fun hd' => Γ[0]? = some (.own true hd') ∧ Q0 (.val .none) hd', rt := fun g Γ => g ≠ .unk ∧ ownQ Γ 0 fun hd' => Γ[0]? = some (.own true hd') ∧ Q0 g hd' } (.own true hd :: startG 1 as) := by
  rintro hd _ Q0 R0 ⟨l, rfl, h0, h1, hh, h⟩
  simp only [db_ulaw_some, dCallH, spDraw, dSeq, dRet, dRetN, dNext, dAndV, dOrV, dNotV, dIsi, dVar, dC, dUn, dOp, dCB, dCons, dNil, dTup, dLst, dTest, dAnd, dOr, dNot, dIf, dIfS, dAsg, dPar, dDrop, dAug, dAsgT, dgName, dgNil, dgCons, dgTup, dCall, dCallX, fInT, fIxT, dSl, dPart, dNoPart, dLenV, dIxV, dSlV, dApp, dExt, dPop, dSetIx, ownQ, putO, dYes, dSeqI, dEnum, dRng1, wipeG, startG, List.map_cons, List.map_nil, List.length_cons, List.length_nil, List.replicate, List.cons_append, List.nil_append, List.getElem?_cons_zero, List.getElem?_cons_succ, List.set_cons_zero, List.set_cons_succ, Nat.reduceAdd, Nat.reduceSub, Nat.zero_add, ne_eq, reduceCtorEq, not_false_eq_true, true_and, if_true, if_false, Bool.false_eq_true, decide_eq_true_eq, decide_true, decide_false, Bool.not_true, Bool.not_false, ite_true, ite_false, reduceIte, Option.some.injEq, exists_eq_left', List.drop_succ_cons, List.drop_zero, ↓y_wdv, ↓y_wdo, ↓y_wds0, ↓y_wds1, ↓y_okv, ↓y_oko, ↓y_addi, ↓y_adds, ↓y_addt, ↓y_addl, ↓y_muli, ↓y_mull, ↓y_eqi, ↓y_eqs, ↓y_nei, ↓y_nes, ↓y_eqt, ↓y_eql, ↓y_lti, ↓y_fi, ↓y_fi0, ↓y_isb, ↓y_ixt, ↓y_ixl, ↓y_lent, ↓y_lenl, ↓y_int, ↓y_tupl, ↓y_tupt, ↓y_lstt, ↓y_lstl, ↓y_slt, ↓y_sll, ↓y_repr, ↓y_at0, ↓y_at1, ↓y_at2, ↓y_at3, ↓y_at4, ↓y_st1, ↓y_st2, ↓y_st3, ↓y_st4, ↓y_exd, atI_0, atI_1, atI_2, atI_3, atI_4, cut_drop1]
  refine ⟨(l.length : Int), rfl, by omega, by omega, hh, fun r hd' r0 r1 hh' => ?_⟩
  obtain ⟨k, rfl⟩ := Int.eq_ofNat_of_zero_le r0
  have hk : k < l.length := by omega
  refine ⟨l[k], L2.atI_nat (List.getElem?_eq_getElem hk), ?_⟩
  exact h _ _ (List.getElem_mem hk) hh'
end K00

namespace K00
open PySem PySem.Spec PyProof.Rows L2 LamX DL
def db_ulaw_ranks   : DS := (dRet (dDisp [("a", 0), ("b", 0), ("c", 0), ("s", 1), ("t", 1), ("f", 2), ("g", 2), ("h", 3)]))
theorem c_ulaw_ranks {P : Program} {w : World} {K : PySem.W.Frag} {mg : Str → Option Value} {base : Heap} {T : List (Addr × Str)} {k : Nat} {sp : SpP} (D : DefAt K mg "_law_ranks" s_ulaw_ranks []) (B : Bi mg builtL) (hlen : ∀ as Q R, sp as Q R → as.length = 0) (law : ∀ as Q0 R0, sp as Q0 R0 → db_ulaw_ranks   { nx := fun _ => Q0 (.val .none), rt := fun g _ => g ≠ .unk ∧ Q0 g } (startG 0 as)) :
    Cal P w K mg base CX0 (k + 1) "_law_ranks" (liftP K T sp) := by
  have sc := sc_ulaw_ranks
  have hj : k ≤ k := by omega
  exact D.mkP sc _ hlen (fun f cdv A outer s H E hr as Q0 R0 h => ⟨_, _, (by exact (ss_one (s_ret (e_disp [("a", 0), ("b", 0), ("c", 0), ("s", 1), ("t", 1), ("f", 2), ("g", 2), ("h", 3)] (pps_cons pe_str pe_int (pps_cons pe_str pe_int (pps_cons pe_str pe_int (pps_cons pe_str pe_int (pps_cons pe_str pe_int (pps_cons pe_str pe_int (pps_cons pe_str pe_int (pps_cons pe_str pe_int pps_nil)))))))))))), law as Q0 R0 h⟩)
theorem l_ulaw_ranks : ∀ as Q0 R0, spRanks as Q0 R0 → db_ulaw_ranks  { nx := fun _ => Q0 (.val .none), rt := fun g _ => g ≠ .unk ∧ Q0 g } (startG 0 as) := by
  rintro _ Q0 R0 ⟨rfl, h⟩
  simp only [db_ulaw_ranks, dDisp, dSeq, dRet, dRetN, dNext, dAndV, dOrV, dNotV, dIsi, dVar, dC, dUn, dOp, dCB, dCons, dNil, dTup, dLst, dTest, dAnd, dOr, dNot, dIf, dIfS, dAsg, dPar, dDrop, dAug, dAsgT, dgName, dgNil, dgCons, dgTup, dCall, dCallX, fInT, fIxT, dSl, dPart, dNoPart, dLenV, dIxV, dSlV, dApp, dExt, dPop, dSetIx, ownQ, putO, dYes, dSeqI, dEnum, dRng1, wipeG, startG, List.map_cons, List.map_nil, List.length_cons, List.length_nil, List.replicate, List.cons_append, List.nil_append, List.getElem?_cons_zero, List.getElem?_cons_succ, List.set_cons_zero, List.set_cons_succ, Nat.reduceAdd, Nat.reduceSub, Nat.zero_add, ne_eq, reduceCtorEq, not_false_eq_true, true_and, if_true, if_false, Bool.false_eq_true, decide_eq_true_eq, decide_true, decide_false, Bool.not_true, Bool.not_false, ite_true, ite_false, reduceIte, Option.some.injEq, exists_eq_left', List.drop_succ_cons, List.drop_zero, ↓y_wdv, ↓y_wdo, ↓y_wds0, ↓y_wds1, ↓y_okv, ↓y_oko, ↓y_addi, ↓y_adds, ↓y_addt, ↓y_addl, ↓y_muli, ↓y_mull, ↓y_eqi, ↓y_eqs, ↓y_nei, ↓y_nes, ↓y_eqt, ↓y_eql, ↓y_lti, ↓y_fi, ↓y_fi0, ↓y_isb, ↓y_ixt, ↓y_ixl, ↓y_lent, ↓y_lenl, ↓y_int, ↓y_tupl, ↓y_tupt, ↓y_lstt, ↓y_lstl, ↓y_slt, ↓y_sll, ↓y_repr, ↓y_at0, ↓y_at1, ↓y_at2, ↓y_at3, ↓y_at4, ↓y_st1, ↓y_st2, ↓y_st3, ↓y_st4, ↓y_exd, atI_0, atI_1, atI_2, atI_3, atI_4, cut_drop1]
  exact ⟨by rfl, by decide, h⟩
end K00

namespace K00
open PySem PySem.Spec PyProof.Rows L2 LamX DL
def db_ulaw_chain (sp_ulaw_some : SpH)  : DS := (dSeq (dAsg 2 (dTup (dCons (dCallH sp_ulaw_some 0 (dCons (dLst (dCons (dC (.str "a")) (dCons (dC (.str "b")) (dCons (dC (.str "c")) dNil)))) dNil)) dNil)))
    (dSeq (dFor (dRng1 (dCons (dOp (fI0 fun i j => .int (i - j)) (dVar 1) (dC (.int 1))) dNil)) (dgName 3)
    (dAsg 2 (dTup (dCons (dCallH sp_ulaw_some 0 (dCons (dLst (dCons (dC (.str "s")) (dCons (dC (.str "t")) dNil))) dNil)) (dCons (dVar 2) dNil)))))
    (dRet (dVar 2))))
theorem c_ulaw_chain {P : Program} {w : World} {K : PySem.W.Frag} {mg : Str → Option Value} {base : Heap} {T : List (Addr × Str)} {k : Nat} {sp_ulaw_some : SpH} {sp : SpH} (D : DefAt K mg "_law_chain" s_ulaw_chain ["hand", "many"]) (B : Bi mg builtL) (F_ulaw_some : Cal P w K mg base CX0 k "_law_some" (liftH K T sp_ulaw_some)) (hlen : ∀ hd as Q R, sp hd as Q R → as.length + 1 = 2) (law : ∀ hd as Q0 R0, sp hd as Q0 R0 → db_ulaw_chain sp_ulaw_some  { nx := fun Γ => ownQ Γ 0 fun hd' => Γ[0]? = some (.own true hd') ∧ Q0 (.val .none) hd', rt := fun g Γ => g ≠ .unk ∧ ownQ Γ 0 fun hd' => Γ[0]? = some (.own true hd') ∧ Q0 g hd' } (.own true hd :: startG 3 as)) :
    Cal P w K mg base CX0 (k + 1) "_law_chain" (liftH K T sp) := by
  have sc := sc_ulaw_chain
  have hj : k ≤ k := by omega
  exact D.mkH sc _ hlen (fun f cdv A outer s H E hr hd as Q0 R0 h => ⟨_, _, (by exact (ss_cons (s_set 2 sc.nd (e_tup (as_cons (k_cH 0 F_ulaw_some hr (as_cons (e_lst (as_cons (e_str) (as_cons (e_str) (as_cons (e_str) as_nil)))) as_nil) hj) as_nil)))
    (ss_cons (s_for PassesOwn.never rfl (i_rng1 (by rfl) (B "range" (by decide)) (as_cons (e_bin b_sub (e_var 1) (e_int)) as_nil)) (g_name 3 sc.nd) (ss_one (s_set 2 sc.nd (e_tup (as_cons (k_cH 0 F_ulaw_some hr (as_cons (e_lst (as_cons (e_str) (as_cons (e_str) as_nil))) as_nil) hj) (as_cons (e_var 2) as_nil))))))
    (ss_one (s_ret (e_var 2)))))), law hd as Q0 R0 h⟩)
theorem l_ulaw_chain  : ∀ hd as Q0 R0, spChain hd as Q0 R0 → db_ulaw_chain spSome { nx := fun Γ => ownQ Γ 0 fun hd' => Γ[0]? = some (.own true hd') ∧ Q0 (.val .none) hd', rt := fun g Γ => g ≠ .unk ∧ ownQ Γ 0 fun hd' => Γ[0]? = some (.own true hd') ∧ Q0 g hd' } (.own true hd :: startG 3 as) := by
  rintro hd _ Q0 R0 ⟨n, rfl, hn1, hn2, hh, h⟩
  simp only [db_ulaw_chain, dCallH, spSome, dSeq, dRet, dRetN, dNext, dAndV, dOrV, dNotV, dIsi, dVar, dC, dUn, dOp, dCB, dCons, dNil, dTup, dLst, dTest, dAnd, dOr, dNot, dIf, dIfS, dAsg, dPar, dDrop, dAug, dAsgT, dgName, dgNil, dgCons, dgTup, dCall, dCallX, fInT, fIxT, dSl, dPart, dNoPart, dLenV, dIxV, dSlV, dApp, dExt, dPop, dSetIx, ownQ, putO, dYes, dSeqI, dEnum, dRng1, wipeG, startG, List.map_cons, List.map_nil, List.length_cons, List.length_nil, List.replicate, List.cons_append, List.nil_append, List.getElem?_cons_zero, List.getElem?_cons_succ, List.set_cons_zero, List.set_cons_succ, Nat.reduceAdd, Nat.reduceSub, Nat.zero_add, ne_eq, reduceCtorEq, not_false_eq_true, true_and, if_true, if_false, Bool.false_eq_true, decide_eq_true_eq, decide_true, decide_false, Bool.not_true, Bool.not_false, ite_true, ite_false, reduceIte, Option.some.injEq, exists_eq_left', List.drop_succ_cons, List.drop_zero, ↓y_wdv, ↓y_wdo, ↓y_wds0, ↓y_wds1, ↓y_okv, ↓y_oko, ↓y_addi, ↓y_adds, ↓y_addt, ↓y_addl, ↓y_muli, ↓y_mull, ↓y_eqi, ↓y_eqs, ↓y_nei, ↓y_nes, ↓y_eqt, ↓y_eql, ↓y_lti, ↓y_fi, ↓y_fi0, ↓y_isb, ↓y_ixt, ↓y_ixl, ↓y_lent, ↓y_lenl, ↓y_int, ↓y_tupl, ↓y_tupt, ↓y_lstt, ↓y_lstl, ↓y_slt, ↓y_sll, ↓y_repr, ↓y_at0, ↓y_at1, ↓y_at2, ↓y_at3, ↓y_at4, ↓y_st1, ↓y_st2, ↓y_st3, ↓y_st4, ↓y_exd, atI_0, atI_1, atI_2, atI_3, atI_4, cut_drop1]
  refine ⟨small (by omega), _, rfl, by simp, by simp, hh, fun x hd1 hx hh1 => ⟨small (by omega), by omega, by omega, ?_⟩⟩
  refine ⟨fun i Γ => ∃ d g3 hd', Γ = [.own true hd', .val (.int n), .val d, g3] ∧ HandOk hd' ∧ IsTr d ∧ dp d = i + 1 ∧ nd d = i + 1, ⟨_, _, _, rfl, hh1, ?_⟩, ?_, ?_⟩
  · have e : ∃ z, x = .str z ∧ rank z = some 0 := by
      simp at hx
      rcases hx with rfl | rfl | rfl <;> exact ⟨_, rfl, rfl⟩
    obtain ⟨z, rfl, e⟩ := e
    exact ⟨.mk e (fun p hp => nomatch hp), by rw [dp_node]; rfl, by rw [nd_node]; rfl⟩
  · rintro i Γ y hi ⟨d, g3, hd', rfl, hh', ht, e1, e2⟩
    simp only [dSeq, dRet, dRetN, dNext, dAndV, dOrV, dNotV, dIsi, dVar, dC, dUn, dOp, dCB, dCons, dNil, dTup, dLst, dTest, dAnd, dOr, dNot, dIf, dIfS, dAsg, dPar, dDrop, dAug, dAsgT, dgName, dgNil, dgCons, dgTup, dCall, dCallX, fInT, fIxT, dSl, dPart, dNoPart, dLenV, dIxV, dSlV, dApp, dExt, dPop, dSetIx, ownQ, putO, dYes, dSeqI, dEnum, dRng1, wipeG, startG, List.map_cons, List.map_nil, List.length_cons, List.length_nil, List.replicate, List.cons_append, List.nil_append, List.getElem?_cons_zero, List.getElem?_cons_succ, List.set_cons_zero, List.set_cons_succ, Nat.reduceAdd, Nat.reduceSub, Nat.zero_add, ne_eq, reduceCtorEq, not_false_eq_true, true_and, if_true, if_false, Bool.false_eq_true, decide_eq_true_eq, decide_true, decide_false, Bool.not_true, Bool.not_false, ite_true, ite_false, reduceIte, Option.some.injEq, exists_eq_left', List.drop_succ_cons, List.drop_zero, ↓y_wdv, ↓y_wdo, ↓y_wds0, ↓y_wds1, ↓y_okv, ↓y_oko, ↓y_addi, ↓y_adds, ↓y_addt, ↓y_addl, ↓y_muli, ↓y_mull, ↓y_eqi, ↓y_eqs, ↓y_nei, ↓y_nes, ↓y_eqt, ↓y_eql, ↓y_lti, ↓y_fi, ↓y_fi0, ↓y_isb, ↓y_ixt, ↓y_ixl, ↓y_lent, ↓y_lenl, ↓y_int, ↓y_tupl, ↓y_tupt, ↓y_lstt, ↓y_lstl, ↓y_slt, ↓y_sll, ↓y_repr, ↓y_at0, ↓y_at1, ↓y_at2, ↓y_at3, ↓y_at4, ↓y_st1, ↓y_st2, ↓y_st3, ↓y_st4, ↓y_exd, atI_0, atI_1, atI_2, atI_3, atI_4, cut_drop1]
    refine ⟨small (by simp), _, rfl, by simp, by simp, hh', fun x hd1 hx hh1 => ⟨small (by simp), _, _, _, rfl, hh1, ?_⟩⟩
    have e : ∃ z, x = .str z ∧ rank z = some 1 := by
      simp at hx
      rcases hx with rfl | rfl <;> exact ⟨_, rfl, rfl⟩
    obtain ⟨z, rfl, e⟩ := e
    refine ⟨.mk e fun p hp => by cases List.mem_singleton.mp hp; exact ht, ?_, ?_⟩
    · rw [dp_node, dps, dps, e1]; omega
    · rw [nd_node, nds, nds, e2]; omega
  · rintro Γ ⟨d, g3, hd', rfl, hh', ht, e1, e2⟩
    rw [rngD_len] at e1 e2
    simp only [dSeq, dRet, dRetN, dNext, dAndV, dOrV, dNotV, dIsi, dVar, dC, dUn, dOp, dCB, dCons, dNil, dTup, dLst, dTest, dAnd, dOr, dNot, dIf, dIfS, dAsg, dPar, dDrop, dAug, dAsgT, dgName, dgNil, dgCons, dgTup, dCall, dCallX, fInT, fIxT, dSl, dPart, dNoPart, dLenV, dIxV, dSlV, dApp, dExt, dPop, dSetIx, ownQ, putO, dYes, dSeqI, dEnum, dRng1, wipeG, startG, List.map_cons, List.map_nil, List.length_cons, List.length_nil, List.replicate, List.cons_append, List.nil_append, List.getElem?_cons_zero, List.getElem?_cons_succ, List.set_cons_zero, List.set_cons_succ, Nat.reduceAdd, Nat.reduceSub, Nat.zero_add, ne_eq, reduceCtorEq, not_false_eq_true, true_and, if_true, if_false, Bool.false_eq_true, decide_eq_true_eq, decide_true, decide_false, Bool.not_true, Bool.not_false, ite_true, ite_false, reduceIte, Option.some.injEq, exists_eq_left', List.drop_succ_cons, List.drop_zero, ↓y_wdv, ↓y_wdo, ↓y_wds0, ↓y_wds1, ↓y_okv, ↓y_oko, ↓y_addi, ↓y_adds, ↓y_addt, ↓y_addl, ↓y_muli, ↓y_mull, ↓y_eqi, ↓y_eqs, ↓y_nei, ↓y_nes, ↓y_eqt, ↓y_eql, ↓y_lti, ↓y_fi, ↓y_fi0, ↓y_isb, ↓y_ixt, ↓y_ixl, ↓y_lent, ↓y_lenl, ↓y_int, ↓y_tupl, ↓y_tupt, ↓y_lstt, ↓y_lstl, ↓y_slt, ↓y_sll, ↓y_repr, ↓y_at0, ↓y_at1, ↓y_at2, ↓y_at3, ↓y_at4, ↓y_st1, ↓y_st2, ↓y_st3, ↓y_st4, ↓y_exd, atI_0, atI_1, atI_2, atI_3, atI_4, cut_drop1]
    exact h d hd' ht (by omega) (by omega) hh'
end K00

namespace K00
open PySem PySem.Spec PyProof.Rows L2 LamX DL
def db_ulaw_wide (sp_ulaw_some : SpH) (sp_ulaw_wide : SpH)  : DS := (dSeq (dIfS (dTest (dOp fEq (dVar 1) (dC (.int 1))))
    (dRet (dTup (dCons (dCallH sp_ulaw_some 0 (dCons (dLst (dCons (dC (.str "a")) (dCons (dC (.str "b")) (dCons (dC (.str "c")) dNil)))) dNil)) dNil)))
    dNext)
    (dSeq (dIfS (dTest (dOp fEq (dOp fMul (dOp (fI CDiv fun i j => .int (i / j)) (dVar 1) (dC (.int 2))) (dC (.int 2))) (dVar 1)))
    (dRet (dTup (dCons (dCallH sp_ulaw_some 0 (dCons (dLst (dCons (dC (.str "s")) (dCons (dC (.str "t")) dNil))) dNil)) (dCons (dCallH sp_ulaw_wide 0 (dCons (dOp (fI0 fun i j => .int (i - j)) (dVar 1) (dC (.int 1))) dNil)) dNil))))
    dNext)
    (dSeq (dAsg 2 (dOp (fI CDiv fun i j => .int (i / j)) (dOp (fI0 fun i j => .int (i - j)) (dVar 1) (dC (.int 1))) (dC (.int 2))))
    (dRet (dTup (dCons (dCallH sp_ulaw_some 0 (dCons (dLst (dCons (dC (.str "f")) (dCons (dC (.str "g")) dNil))) dNil)) (dCons (dCallH sp_ulaw_wide 0 (dCons (dVar 2) dNil)) (dCons (dCallH sp_ulaw_wide 0 (dCons (dOp (fI0 fun i j => .int (i - j)) (dOp (fI0 fun i j => .int (i - j)) (dVar 1) (dC (.int 1))) (dVar 2)) dNil)) dNil))))))))
theorem c_ulaw_wide {P : Program} {w : World} {K : PySem.W.Frag} {mg : Str → Option Value} {base : Heap} {T : List (Addr × Str)} {k : Nat} {sp_ulaw_some : SpH} {sp_ulaw_wide : SpH} {sp : SpH} (D : DefAt K mg "_law_wide" s_ulaw_wide ["hand", "many"]) (B : Bi mg builtL) (F_ulaw_some : Cal P w K mg base CX0 k "_law_some" (liftH K T sp_ulaw_some)) (F_ulaw_wide : Cal P w K mg base CX0 k "_law_wide" (liftH K T sp_ulaw_wide)) (hlen : ∀ hd as Q R, sp hd as Q R → as.length + 1 = 2) (law : ∀ hd as Q0 R0, sp hd as Q0 R0 → db_ulaw_wide sp_ulaw_some sp_ulaw_wide  { nx := fun Γ => ownQ Γ 0 fun hd' => Γ[0]? = some (.own true hd') ∧ Q0 (.val .none) hd', rt := fun g Γ => g ≠ .unk ∧ ownQ Γ 0 fun hd' => Γ[0]? = some (.own true hd') ∧ Q0 g hd' } (.own true hd :: startG 2 as)) :
    Cal P w K mg base CX0 (k + 1) "_law_wide" (liftH K T sp) := by
  have sc := sc_ulaw_wide
  have hj : k ≤ k := by omega
  exact D.mkH sc _ hlen (fun f cdv A outer s H E hr hd as Q0 R0 h => ⟨_, _, (by exact (ss_cons (s_if (t_cmp (k_eq K hr.units) (e_var 1) (e_int)) (ss_one (s_ret (e_tup (as_cons (k_cH 0 F_ulaw_some hr (as_cons (e_lst (as_cons (e_str) (as_cons (e_str) (as_cons (e_str) as_nil)))) as_nil) hj) as_nil)))) ss_nil)
    (ss_cons (s_if (t_cmp (k_eq K hr.units) (e_bin (k_mul K) (e_bin b_fdiv (e_var 1) (e_int)) (e_int)) (e_var 1)) (ss_one (s_ret (e_tup (as_cons (k_cH 0 F_ulaw_some hr (as_cons (e_lst (as_cons (e_str) (as_cons (e_str) as_nil))) as_nil) hj) (as_cons (k_cH 0 F_ulaw_wide hr (as_cons (e_bin b_sub (e_var 1) (e_int)) as_nil) hj) as_nil))))) ss_nil)
    (ss_cons (s_set 2 sc.nd (e_bin b_fdiv (e_bin b_sub (e_var 1) (e_int)) (e_int)))
    (ss_one (s_ret (e_tup (as_cons (k_cH 0 F_ulaw_some hr (as_cons (e_lst (as_cons (e_str) (as_cons (e_str) as_nil))) as_nil) hj) (as_cons (k_cH 0 F_ulaw_wide hr (as_cons (e_var 2) as_nil) hj) (as_cons (k_cH 0 F_ulaw_wide hr (as_cons (e_bin b_sub (e_bin b_sub (e_var 1) (e_int)) (e_var 2)) as_nil) hj) as_nil)))))))))), law hd as Q0 R0 h⟩)
theorem l_ulaw_wide (m : Nat) : ∀ hd as Q0 R0, spWide (m + 1) hd as Q0 R0 → db_ulaw_wide spSome (spWide m) { nx := fun Γ => ownQ Γ 0 fun hd' => Γ[0]? = some (.own true hd') ∧ Q0 (.val .none) hd', rt := fun g Γ => g ≠ .unk ∧ ownQ Γ 0 fun hd' => Γ[0]? = some (.own true hd') ∧ Q0 g hd' } (.own true hd :: startG 2 as) := by
  rintro hd _ Q0 R0 ⟨n, rfl, hk, hn, hh, h⟩
  have hsome : ∀ (l : List PyData) (hd : List PyData) (Q : G → List PyData → Prop), HandOk hd → 0 < l.length → l.length < 1073741824 → (∀ d hd', d ∈ l → HandOk hd' → Q (.val d) hd') → ∀ R, spSome hd [.list l] Q R := fun l hd Q a b c d R => ⟨l, rfl, b, c, a, d⟩
  rw [rk] at hk
  simp only [db_ulaw_wide, dCallH, dSeq, dRet, dRetN, dNext, dAndV, dOrV, dNotV, dIsi, dVar, dC, dUn, dOp, dCB, dCons, dNil, dTup, dLst, dTest, dAnd, dOr, dNot, dIf, dIfS, dAsg, dPar, dDrop, dAug, dAsgT, dgName, dgNil, dgCons, dgTup, dCall, dCallX, fInT, fIxT, dSl, dPart, dNoPart, dLenV, dIxV, dSlV, dApp, dExt, dPop, dSetIx, ownQ, putO, dYes, dSeqI, dEnum, dRng1, wipeG, startG, List.map_cons, List.map_nil, List.length_cons, List.length_nil, List.replicate, List.cons_append, List.nil_append, List.getElem?_cons_zero, List.getElem?_cons_succ, List.set_cons_zero, List.set_cons_succ, Nat.reduceAdd, Nat.reduceSub, Nat.zero_add, ne_eq, reduceCtorEq, not_false_eq_true, true_and, if_true, if_false, Bool.false_eq_true, decide_eq_true_eq, decide_true, decide_false, Bool.not_true, Bool.not_false, ite_true, ite_false, reduceIte, Option.some.injEq, exists_eq_left', List.drop_succ_cons, List.drop_zero, ↓y_wdv, ↓y_wdo, ↓y_wds0, ↓y_wds1, ↓y_okv, ↓y_oko, ↓y_addi, ↓y_adds, ↓y_addt, ↓y_addl, ↓y_muli, ↓y_mull, ↓y_eqi, ↓y_eqs, ↓y_nei, ↓y_nes, ↓y_eqt, ↓y_eql, ↓y_lti, ↓y_fi, ↓y_fi0, ↓y_isb, ↓y_ixt, ↓y_ixl, ↓y_lent, ↓y_lenl, ↓y_int, ↓y_tupl, ↓y_tupt, ↓y_lstt, ↓y_lstl, ↓y_slt, ↓y_sll, ↓y_repr, ↓y_at0, ↓y_at1, ↓y_at2, ↓y_at3, ↓y_at4, ↓y_st1, ↓y_st2, ↓y_st3, ↓y_st4, ↓y_exd, atI_0, atI_1, atI_2, atI_3, atI_4, cut_drop1]
  by_cases c1 : (n : Int) = 1
  · rw [if_pos c1]
    refine ⟨small (by simp), hsome _ _ _ hh (by simp) (by simp) (fun x hd1 hx hh1 => ?_) _⟩
    simp only [dSeq, dRet, dRetN, dNext, dAndV, dOrV, dNotV, dIsi, dVar, dC, dUn, dOp, dCB, dCons, dNil, dTup, dLst, dTest, dAnd, dOr, dNot, dIf, dIfS, dAsg, dPar, dDrop, dAug, dAsgT, dgName, dgNil, dgCons, dgTup, dCall, dCallX, fInT, fIxT, dSl, dPart, dNoPart, dLenV, dIxV, dSlV, dApp, dExt, dPop, dSetIx, ownQ, putO, dYes, dSeqI, dEnum, dRng1, wipeG, startG, List.map_cons, List.map_nil, List.length_cons, List.length_nil, List.replicate, List.cons_append, List.nil_append, List.getElem?_cons_zero, List.getElem?_cons_succ, List.set_cons_zero, List.set_cons_succ, Nat.reduceAdd, Nat.reduceSub, Nat.zero_add, ne_eq, reduceCtorEq, not_false_eq_true, true_and, if_true, if_false, Bool.false_eq_true, decide_eq_true_eq, decide_true, decide_false, Bool.not_true, Bool.not_false, ite_true, ite_false, reduceIte, Option.some.injEq, exists_eq_left', List.drop_succ_cons, List.drop_zero, ↓y_wdv, ↓y_wdo, ↓y_wds0, ↓y_wds1, ↓y_okv, ↓y_oko, ↓y_addi, ↓y_adds, ↓y_addt, ↓y_addl, ↓y_muli, ↓y_mull, ↓y_eqi, ↓y_eqs, ↓y_nei, ↓y_nes, ↓y_eqt, ↓y_eql, ↓y_lti, ↓y_fi, ↓y_fi0, ↓y_isb, ↓y_ixt, ↓y_ixl, ↓y_lent, ↓y_lenl, ↓y_int, ↓y_tupl, ↓y_tupt, ↓y_lstt, ↓y_lstl, ↓y_slt, ↓y_sll, ↓y_repr, ↓y_at0, ↓y_at1, ↓y_at2, ↓y_at3, ↓y_at4, ↓y_st1, ↓y_st2, ↓y_st3, ↓y_st4, ↓y_exd, atI_0, atI_1, atI_2, atI_3, atI_4, cut_drop1]
    have e : ∃ z, x = .str z ∧ rank z = some 0 := by
      simp at hx
      rcases hx with rfl | rfl | rfl <;> exact ⟨_, rfl, rfl⟩
    obtain ⟨z, rfl, e⟩ := e
    refine ⟨small (by simp), h _ _ (.mk e (fun p hp => nomatch hp)) ?_ ?_ hh1⟩
    · rw [dp_node, dps]; omega
    · rw [nd_node, nds]; omega
  · rw [if_neg c1]
    have hn1 : n ≠ 1 := fun z => c1 (by rw [z]; rfl)
    have hk1 : n ≠ 0 ∧ (if n % 2 = 0 then rk m (n - 1) else rk m ((n - 1) / 2)) = true := by
      simpa [hn1] using hk
    obtain ⟨hn0, hk1⟩ := hk1
    refine ⟨⟨by omega, by omega⟩, .inr ⟨by omega, by omega⟩, ?_⟩
    have one : ∀ {k : Nat}, rk m k = true → ∃ m', m = m' + 1 := fun {k} h => by
      cases m with
      | zero => cases h
      | succ m => exact ⟨m, rfl⟩
    have hwide : ∀ (k : Nat) (e : Int) (hd : List PyData) (Q : G → List PyData → Prop), e = (k : Int) → rk m k = true → k ≤ 301 → HandOk hd → (∀ d hd', IsTr d → dp d ≤ m → nd d = k → HandOk hd' → Q (.val d) hd') → ∀ R, spWide m hd [.int e] Q R := fun k e hd Q he a b c d R => by
      obtain ⟨m', rfl⟩ := one a
      subst he
      exact ⟨k, rfl, a, b, c, d⟩
    by_cases c2 : (n : Int) / 2 * 2 = n
    · rw [if_pos c2]
      rw [if_pos (by omega)] at hk1
      refine ⟨small (by simp), hsome _ _ _ hh (by simp) (by simp) (fun x hd1 hx hh1 => ?_) _⟩
      simp only [dSeq, dRet, dRetN, dNext, dAndV, dOrV, dNotV, dIsi, dVar, dC, dUn, dOp, dCB, dCons, dNil, dTup, dLst, dTest, dAnd, dOr, dNot, dIf, dIfS, dAsg, dPar, dDrop, dAug, dAsgT, dgName, dgNil, dgCons, dgTup, dCall, dCallX, fInT, fIxT, dSl, dPart, dNoPart, dLenV, dIxV, dSlV, dApp, dExt, dPop, dSetIx, ownQ, putO, dYes, dSeqI, dEnum, dRng1, wipeG, startG, List.map_cons, List.map_nil, List.length_cons, List.length_nil, List.replicate, List.cons_append, List.nil_append, List.getElem?_cons_zero, List.getElem?_cons_succ, List.set_cons_zero, List.set_cons_succ, Nat.reduceAdd, Nat.reduceSub, Nat.zero_add, ne_eq, reduceCtorEq, not_false_eq_true, true_and, if_true, if_false, Bool.false_eq_true, decide_eq_true_eq, decide_true, decide_false, Bool.not_true, Bool.not_false, ite_true, ite_false, reduceIte, Option.some.injEq, exists_eq_left', List.drop_succ_cons, List.drop_zero, ↓y_wdv, ↓y_wdo, ↓y_wds0, ↓y_wds1, ↓y_okv, ↓y_oko, ↓y_addi, ↓y_adds, ↓y_addt, ↓y_addl, ↓y_muli, ↓y_mull, ↓y_eqi, ↓y_eqs, ↓y_nei, ↓y_nes, ↓y_eqt, ↓y_eql, ↓y_lti, ↓y_fi, ↓y_fi0, ↓y_isb, ↓y_ixt, ↓y_ixl, ↓y_lent, ↓y_lenl, ↓y_int, ↓y_tupl, ↓y_tupt, ↓y_lstt, ↓y_lstl, ↓y_slt, ↓y_sll, ↓y_repr, ↓y_at0, ↓y_at1, ↓y_at2, ↓y_at3, ↓y_at4, ↓y_st1, ↓y_st2, ↓y_st3, ↓y_st4, ↓y_exd, atI_0, atI_1, atI_2, atI_3, atI_4, cut_drop1]
      have e : ∃ z, x = .str z ∧ rank z = some 1 := by
        simp at hx
        rcases hx with rfl | rfl <;> exact ⟨_, rfl, rfl⟩
      obtain ⟨z, rfl, e⟩ := e
      refine hwide (n - 1) _ _ _ (by omega) hk1 (by omega) hh1 (fun d hd2 ht hdd hnd hh2 => ?_) _
      simp only [dSeq, dRet, dRetN, dNext, dAndV, dOrV, dNotV, dIsi, dVar, dC, dUn, dOp, dCB, dCons, dNil, dTup, dLst, dTest, dAnd, dOr, dNot, dIf, dIfS, dAsg, dPar, dDrop, dAug, dAsgT, dgName, dgNil, dgCons, dgTup, dCall, dCallX, fInT, fIxT, dSl, dPart, dNoPart, dLenV, dIxV, dSlV, dApp, dExt, dPop, dSetIx, ownQ, putO, dYes, dSeqI, dEnum, dRng1, wipeG, startG, List.map_cons, List.map_nil, List.length_cons, List.length_nil, List.replicate, List.cons_append, List.nil_append, List.getElem?_cons_zero, List.getElem?_cons_succ, List.set_cons_zero, List.set_cons_succ, Nat.reduceAdd, Nat.reduceSub, Nat.zero_add, ne_eq, reduceCtorEq, not_false_eq_true, true_and, if_true, if_false, Bool.false_eq_true, decide_eq_true_eq, decide_true, decide_false, Bool.not_true, Bool.not_false, ite_true, ite_false, reduceIte, Option.some.injEq, exists_eq_left', List.drop_succ_cons, List.drop_zero, ↓y_wdv, ↓y_wdo, ↓y_wds0, ↓y_wds1, ↓y_okv, ↓y_oko, ↓y_addi, ↓y_adds, ↓y_addt, ↓y_addl, ↓y_muli, ↓y_mull, ↓y_eqi, ↓y_eqs, ↓y_nei, ↓y_nes, ↓y_eqt, ↓y_eql, ↓y_lti, ↓y_fi, ↓y_fi0, ↓y_isb, ↓y_ixt, ↓y_ixl, ↓y_lent, ↓y_lenl, ↓y_int, ↓y_tupl, ↓y_tupt, ↓y_lstt, ↓y_lstl, ↓y_slt, ↓y_sll, ↓y_repr, ↓y_at0, ↓y_at1, ↓y_at2, ↓y_at3, ↓y_at4, ↓y_st1, ↓y_st2, ↓y_st3, ↓y_st4, ↓y_exd, atI_0, atI_1, atI_2, atI_3, atI_4, cut_drop1]
      refine ⟨small (by simp), h _ _ (.mk e (fun p hp => by cases List.mem_singleton.mp hp; exact ht)) ?_ ?_ hh2⟩
      · rw [dp_node, dps, dps]; omega
      · rw [nd_node, nds, nds]; omega
    · rw [if_neg c2]
      rw [if_neg (by omega)] at hk1
      refine ⟨⟨by omega, by omega⟩, small (by simp), hsome _ _ _ hh (by simp) (by simp) (fun x hd1 hx hh1 => ?_) _⟩
      simp only [dSeq, dRet, dRetN, dNext, dAndV, dOrV, dNotV, dIsi, dVar, dC, dUn, dOp, dCB, dCons, dNil, dTup, dLst, dTest, dAnd, dOr, dNot, dIf, dIfS, dAsg, dPar, dDrop, dAug, dAsgT, dgName, dgNil, dgCons, dgTup, dCall, dCallX, fInT, fIxT, dSl, dPart, dNoPart, dLenV, dIxV, dSlV, dApp, dExt, dPop, dSetIx, ownQ, putO, dYes, dSeqI, dEnum, dRng1, wipeG, startG, List.map_cons, List.map_nil, List.length_cons, List.length_nil, List.replicate, List.cons_append, List.nil_append, List.getElem?_cons_zero, List.getElem?_cons_succ, List.set_cons_zero, List.set_cons_succ, Nat.reduceAdd, Nat.reduceSub, Nat.zero_add, ne_eq, reduceCtorEq, not_false_eq_true, true_and, if_true, if_false, Bool.false_eq_true, decide_eq_true_eq, decide_true, decide_false, Bool.not_true, Bool.not_false, ite_true, ite_false, reduceIte, Option.some.injEq, exists_eq_left', List.drop_succ_cons, List.drop_zero, ↓y_wdv, ↓y_wdo, ↓y_wds0, ↓y_wds1, ↓y_okv, ↓y_oko, ↓y_addi, ↓y_adds, ↓y_addt, ↓y_addl, ↓y_muli, ↓y_mull, ↓y_eqi, ↓y_eqs, ↓y_nei, ↓y_nes, ↓y_eqt, ↓y_eql, ↓y_lti, ↓y_fi, ↓y_fi0, ↓y_isb, ↓y_ixt, ↓y_ixl, ↓y_lent, ↓y_lenl, ↓y_int, ↓y_tupl, ↓y_tupt, ↓y_lstt, ↓y_lstl, ↓y_slt, ↓y_sll, ↓y_repr, ↓y_at0, ↓y_at1, ↓y_at2, ↓y_at3, ↓y_at4, ↓y_st1, ↓y_st2, ↓y_st3, ↓y_st4, ↓y_exd, atI_0, atI_1, atI_2, atI_3, atI_4, cut_drop1]
      have e : ∃ z, x = .str z ∧ rank z = some 2 := by
        simp at hx
        rcases hx with rfl | rfl <;> exact ⟨_, rfl, rfl⟩
      obtain ⟨z, rfl, e⟩ := e
      refine hwide ((n - 1) / 2) _ _ _ (by omega) hk1 (by omega) hh1 (fun d hd2 ht hdd hnd hh2 => ?_) _
      simp only [dSeq, dRet, dRetN, dNext, dAndV, dOrV, dNotV, dIsi, dVar, dC, dUn, dOp, dCB, dCons, dNil, dTup, dLst, dTest, dAnd, dOr, dNot, dIf, dIfS, dAsg, dPar, dDrop, dAug, dAsgT, dgName, dgNil, dgCons, dgTup, dCall, dCallX, fInT, fIxT, dSl, dPart, dNoPart, dLenV, dIxV, dSlV, dApp, dExt, dPop, dSetIx, ownQ, putO, dYes, dSeqI, dEnum, dRng1, wipeG, startG, List.map_cons, List.map_nil, List.length_cons, List.length_nil, List.replicate, List.cons_append, List.nil_append, List.getElem?_cons_zero, List.getElem?_cons_succ, List.set_cons_zero, List.set_cons_succ, Nat.reduceAdd, Nat.reduceSub, Nat.zero_add, ne_eq, reduceCtorEq, not_false_eq_true, true_and, if_true, if_false, Bool.false_eq_true, decide_eq_true_eq, decide_true, decide_false, Bool.not_true, Bool.not_false, ite_true, ite_false, reduceIte, Option.some.injEq, exists_eq_left', List.drop_succ_cons, List.drop_zero, ↓y_wdv, ↓y_wdo, ↓y_wds0, ↓y_wds1, ↓y_okv, ↓y_oko, ↓y_addi, ↓y_adds, ↓y_addt, ↓y_addl, ↓y_muli, ↓y_mull, ↓y_eqi, ↓y_eqs, ↓y_nei, ↓y_nes, ↓y_eqt, ↓y_eql, ↓y_lti, ↓y_fi, ↓y_fi0, ↓y_isb, ↓y_ixt, ↓y_ixl, ↓y_lent, ↓y_lenl, ↓y_int, ↓y_tupl, ↓y_tupt, ↓y_lstt, ↓y_lstl, ↓y_slt, ↓y_sll, ↓y_repr, ↓y_at0, ↓y_at1, ↓y_at2, ↓y_at3, ↓y_at4, ↓y_st1, ↓y_st2, ↓y_st3, ↓y_st4, ↓y_exd, atI_0, atI_1, atI_2, atI_3, atI_4, cut_drop1]
      refine hwide ((n - 1) / 2) _ _ _ (by omega) hk1 (by omega) hh2 (fun d2 hd3 ht2 hdd2 hnd2 hh3 => ?_) _
      simp only [dSeq, dRet, dRetN, dNext, dAndV, dOrV, dNotV, dIsi, dVar, dC, dUn, dOp, dCB, dCons, dNil, dTup, dLst, dTest, dAnd, dOr, dNot, dIf, dIfS, dAsg, dPar, dDrop, dAug, dAsgT, dgName, dgNil, dgCons, dgTup, dCall, dCallX, fInT, fIxT, dSl, dPart, dNoPart, dLenV, dIxV, dSlV, dApp, dExt, dPop, dSetIx, ownQ, putO, dYes, dSeqI, dEnum, dRng1, wipeG, startG, List.map_cons, List.map_nil, List.length_cons, List.length_nil, List.replicate, List.cons_append, List.nil_append, List.getElem?_cons_zero, List.getElem?_cons_succ, List.set_cons_zero, List.set_cons_succ, Nat.reduceAdd, Nat.reduceSub, Nat.zero_add, ne_eq, reduceCtorEq, not_false_eq_true, true_and, if_true, if_false, Bool.false_eq_true, decide_eq_true_eq, decide_true, decide_false, Bool.not_true, Bool.not_false, ite_true, ite_false, reduceIte, Option.some.injEq, exists_eq_left', List.drop_succ_cons, List.drop_zero, ↓y_wdv, ↓y_wdo, ↓y_wds0, ↓y_wds1, ↓y_okv, ↓y_oko, ↓y_addi, ↓y_adds, ↓y_addt, ↓y_addl, ↓y_muli, ↓y_mull, ↓y_eqi, ↓y_eqs, ↓y_nei, ↓y_nes, ↓y_eqt, ↓y_eql, ↓y_lti, ↓y_fi, ↓y_fi0, ↓y_isb, ↓y_ixt, ↓y_ixl, ↓y_lent, ↓y_lenl, ↓y_int, ↓y_tupl, ↓y_tupt, ↓y_lstt, ↓y_lstl, ↓y_slt, ↓y_sll, ↓y_repr, ↓y_at0, ↓y_at1, ↓y_at2, ↓y_at3, ↓y_at4, ↓y_st1, ↓y_st2, ↓y_st3, ↓y_st4, ↓y_exd, atI_0, atI_1, atI_2, atI_3, atI_4, cut_drop1]
      refine ⟨small (by simp), h _ _ (.mk e (fun p hp => ?_)) ?_ ?_ hh3⟩
      · simp at hp
        rcases hp with rfl | rfl
        · exact ht
        · exact ht2
      · rw [dp_node, dps, dps, dps]; omega
      · rw [nd_node, nds, nds, nds]; omega
end K00

namespace K00
open PySem PySem.Spec PyProof.Rows L2 LamX DL
def db_ulaw_tree (sp_ulaw_some : SpH) (sp_ulaw_draw : SpH) (sp_ulaw_ranks : SpP) (sp_ulaw_tree : SpH)  : DS := (dSeq (dAsg 2 (dCallH sp_ulaw_some 0 (dCons (dLst (dCons (dC (.str "s")) (dCons (dC (.str "t")) (dCons (dC (.str "f")) (dCons (dC (.str "g")) (dCons (dC (.str "f")) (dCons (dC (.str "s")) (dCons (dC (.str "h")) dNil)))))))) dNil)))
    (dSeq (dIfS (dOr (dTest (dOp fLt (dVar 1) (dC (.int 2)))) (dTest (dOp fEq (dCallH sp_ulaw_draw 0 (dCons (dC (.int 4)) dNil)) (dC (.int 0)))))
    (dAsg 2 (dCallH sp_ulaw_some 0 (dCons (dLst (dCons (dC (.str "a")) (dCons (dC (.str "b")) (dCons (dC (.str "c")) dNil)))) dNil)))
    dNext)
    (dRet (dOp fAdd (dTup (dCons (dVar 2) dNil)) (dCB fTuple (dCons (dLc (dRng1 (dCons (dOp fDGet (dCall sp_ulaw_ranks dNil) (dVar 2)) dNil)) (dgName 3) dYes (dCallH sp_ulaw_tree 0 (dCons (dOp (fI0 fun i j => .int (i - j)) (dVar 1) (dC (.int 1))) dNil)) [3]) dNil))))))
theorem c_ulaw_tree {P : Program} {w : World} {K : PySem.W.Frag} {mg : Str → Option Value} {base : Heap} {T : List (Addr × Str)} {k : Nat} {sp_ulaw_some : SpH} {sp_ulaw_draw : SpH} {sp_ulaw_ranks : SpP} {sp_ulaw_tree : SpH} {sp : SpH} (D : DefAt K mg "_law_tree" s_ulaw_tree ["hand", "far"]) (B : Bi mg builtL) (F_ulaw_some : Cal P w K mg base CX0 k "_law_some" (liftH K T sp_ulaw_some)) (F_ulaw_draw : Cal P w K mg base CX0 k "_law_draw" (liftH K T sp_ulaw_draw)) (F_ulaw_ranks : Cal P w K mg base CX0 k "_law_ranks" (liftP K T sp_ulaw_ranks)) (F_ulaw_tree : Cal P w K mg base CX0 k "_law_tree" (liftH K T sp_ulaw_tree)) (hlen : ∀ hd as Q R, sp hd as Q R → as.length + 1 = 2) (law : ∀ hd as Q0 R0, sp hd as Q0 R0 → db_ulaw_tree sp_ulaw_some sp_ulaw_draw sp_ulaw_ranks sp_ulaw_tree  { nx := fun Γ => ownQ Γ 0 fun hd' => Γ[0]? = some (.own true hd') ∧ Q0 (.val .none) hd', rt := fun g Γ => g ≠ .unk ∧ ownQ Γ 0 fun hd' => Γ[0]? = some (.own true hd') ∧ Q0 g hd' } (.own true hd :: startG 3 as)) :
    Cal P w K mg base CX0 (k + 1) "_law_tree" (liftH K T sp) := by
  have sc := sc_ulaw_tree
  have hj : k ≤ k := by omega
  exact D.mkH sc _ hlen (fun f cdv A outer s H E hr hd as Q0 R0 h => ⟨_, _, (by exact (ss_cons (s_set 2 sc.nd (k_cH 0 F_ulaw_some hr (as_cons (e_lst (as_cons (e_str) (as_cons (e_str) (as_cons (e_str) (as_cons (e_str) (as_cons (e_str) (as_cons (e_str) (as_cons (e_str) as_nil)))))))) as_nil) hj))
    (ss_cons (s_if (t_bool (w_or (t_cmp c_lt (e_var 1) (e_int)) (w_or1 (t_cmp (k_eq K hr.units) (k_cH 0 F_ulaw_draw hr (as_cons (e_int) as_nil) hj) (e_int))))) (ss_one (s_set 2 sc.nd (k_cH 0 F_ulaw_some hr (as_cons (e_lst (as_cons (e_str) (as_cons (e_str) (as_cons (e_str) as_nil)))) as_nil) hj))) ss_nil)
    (ss_one (s_ret (e_bin (k_add K) (e_tup (as_cons (e_var 2) as_nil)) (k_ct (q_tuple K) PyProof.Rows.boot_tuple (B "tuple" (by decide)) (as_cons (e_lc rfl sc.nd (i_rng1 (by rfl) (B "range" (by decide)) (as_cons (e_dget (hu_of hr) (k_c0 F_ulaw_ranks hr hj) (e_var 2)) as_nil)) (own := [("part", 3)]) (blkOk_by rfl) (tgin_name (by decide)) (fun _ _ _ _ _ => (g_name 3 sc.nd)) (fun _ _ _ _ _ => ts_nil) (fun _ _ _ _ _ => (k_cH 0 F_ulaw_tree hr (as_cons (e_bin b_sub (e_var 1) (e_int)) as_nil) hj))) as_nil)))))))), law hd as Q0 R0 h⟩)
theorem gN_pos (n : Nat) : 1 ≤ gN (n + 1) := by rw [gN]; omega
theorem sum_le_mul {b : Nat} : ∀ {l : List PyData}, (∀ p ∈ l, nd p ≤ b) → nds l ≤ l.length * b
  | [], _ => by rw [nds]; omega
  | p :: r, h => by
    rw [nds, List.length_cons, Nat.add_mul]
    have h1 := h p List.mem_cons_self
    have h2 := sum_le_mul fun y hy => h y (List.mem_cons_of_mem _ hy)
    omega
theorem sign_ranks {z : Str} {k : Int} (h : rank z = some k) : lookD [(.str "a", .int 0), (.str "b", .int 0), (.str "c", .int 0), (.str "s", .int 1), (.str "t", .int 1), (.str "f", .int 2), (.str "g", .int 2), (.str "h", .int 3)] z = some (.int k) := by
  have key : ∀ q ∈ rkL, lookD [(.str "a", .int 0), (.str "b", .int 0), (.str "c", .int 0), (.str "s", .int 1), (.str "t", .int 1), (.str "f", .int 2), (.str "g", .int 2), (.str "h", .int 3)] q.1 = some (.int q.2) := by
    intro q hq
    simp only [rkL, List.mem_cons, List.not_mem_nil, or_false] at hq
    rcases hq with rfl | rfl | rfl | rfl | rfl | rfl | rfl | rfl <;> rfl
  have mem : ∀ l : List (Str × Int), l.lookup z = some k → (z, k) ∈ l := by
    intro l
    induction l with
    | nil => intro e; cases e
    | cons q r ih =>
      intro e
      rw [List.lookup_cons] at e
      cases c : z == q.1 with
      | true =>
        rw [c] at e
        cases e
        rw [beq_iff_eq.mp c]
        exact List.mem_cons_self
      | false => rw [c] at e; exact List.mem_cons_of_mem _ (ih e)
  exact key _ (mem rkL h)
theorem l_ulaw_tree (n : Nat) : ∀ hd as Q0 R0, spTree (n + 1) hd as Q0 R0 → db_ulaw_tree spSome spDraw spRanks (spTree n) { nx := fun Γ => ownQ Γ 0 fun hd' => Γ[0]? = some (.own true hd') ∧ Q0 (.val .none) hd', rt := fun g Γ => g ≠ .unk ∧ ownQ Γ 0 fun hd' => Γ[0]? = some (.own true hd') ∧ Q0 g hd' } (.own true hd :: startG 3 as) := by
  rintro hd _ Q0 R0 ⟨far, rfl, hf, hh, h⟩
  have hsome : ∀ (l : List PyData) (hd : List PyData) (Q : G → List PyData → Prop), HandOk hd → 0 < l.length → l.length < 1073741824 → (∀ d hd', d ∈ l → HandOk hd' → Q (.val d) hd') → ∀ R, spSome hd [.list l] Q R := fun l hd Q a b c d R => ⟨l, rfl, b, c, a, d⟩
  have hsgn : ∀ x : PyData, (x = .str "s" ∨ x = .str "t" ∨ x = .str "f" ∨ x = .str "g" ∨ x = .str "h" ∨ x = .str "a" ∨ x = .str "b" ∨ x = .str "c") → ∃ z k, x = .str z ∧ rank z = some ((k : Nat) : Int) ∧ k ≤ 3 ∧ ((x = .str "a" ∨ x = .str "b" ∨ x = .str "c") → k = 0) := by
    rintro x (rfl | rfl | rfl | rfl | rfl | rfl | rfl | rfl)
    · exact ⟨"s", 1, rfl, rfl, by omega, fun q => by rcases q with q | q | q <;> cases q⟩
    · exact ⟨"t", 1, rfl, rfl, by omega, fun q => by rcases q with q | q | q <;> cases q⟩
    · exact ⟨"f", 2, rfl, rfl, by omega, fun q => by rcases q with q | q | q <;> cases q⟩
    · exact ⟨"g", 2, rfl, rfl, by omega, fun q => by rcases q with q | q | q <;> cases q⟩
    · exact ⟨"h", 3, rfl, rfl, by omega, fun q => by rcases q with q | q | q <;> cases q⟩
    · exact ⟨"a", 0, rfl, rfl, by omega, fun _ => rfl⟩
    · exact ⟨"b", 0, rfl, rfl, by omega, fun _ => rfl⟩
    · exact ⟨"c", 0, rfl, rfl, by omega, fun _ => rfl⟩
  unfold db_ulaw_tree
  -- the rest, behind the sign
  have rest : ∀ (z : Str) (k : Nat) (hd : List PyData), rank z = some (k : Int) → k ≤ 3 → HandOk hd → (k ≠ 0 → 2 ≤ far) → ∀ Γ, Γ = [.own true hd, .val (.int far), .val (.str z), .unk] →
      (dRet (dOp fAdd (dTup (dCons (dVar 2) dNil)) (dCB fTuple (dCons (dLc (dRng1 (dCons (dOp fDGet (dCall spRanks dNil) (dVar 2)) dNil)) (dgName 3) dYes (dCallH (spTree n) 0 (dCons (dOp (fI0 fun i j => .int (i - j)) (dVar 1) (dC (.int 1))) dNil)) [3]) dNil)))) { nx := fun Γ => ownQ Γ 0 fun hd' => Γ[0]? = some (.own true hd') ∧ Q0 (.val .none) hd', rt := fun g Γ => g ≠ .unk ∧ ownQ Γ 0 fun hd' => Γ[0]? = some (.own true hd') ∧ Q0 g hd' } Γ := by
    rintro z k hd hz hk hh h2 Γ rfl
    simp only [dSeq, dRet, dRetN, dNext, dAndV, dOrV, dNotV, dIsi, dVar, dC, dUn, dOp, dCB, dCons, dNil, dTup, dLst, dTest, dAnd, dOr, dNot, dIf, dIfS, dAsg, dPar, dDrop, dAug, dAsgT, dgName, dgNil, dgCons, dgTup, dCall, dCallX, fInT, fIxT, dSl, dPart, dNoPart, dLenV, dIxV, dSlV, dApp, dExt, dPop, dSetIx, ownQ, putO, dYes, dSeqI, dEnum, dRng1, wipeG, startG, List.map_cons, List.map_nil, List.length_cons, List.length_nil, List.replicate, List.cons_append, List.nil_append, List.getElem?_cons_zero, List.getElem?_cons_succ, List.set_cons_zero, List.set_cons_succ, Nat.reduceAdd, Nat.reduceSub, Nat.zero_add, ne_eq, reduceCtorEq, not_false_eq_true, true_and, if_true, if_false, Bool.false_eq_true, decide_eq_true_eq, decide_true, decide_false, Bool.not_true, Bool.not_false, ite_true, ite_false, reduceIte, Option.some.injEq, exists_eq_left', List.drop_succ_cons, List.drop_zero, ↓y_wdv, ↓y_wdo, ↓y_wds0, ↓y_wds1, ↓y_okv, ↓y_oko, ↓y_addi, ↓y_adds, ↓y_addt, ↓y_addl, ↓y_muli, ↓y_mull, ↓y_eqi, ↓y_eqs, ↓y_nei, ↓y_nes, ↓y_eqt, ↓y_eql, ↓y_lti, ↓y_fi, ↓y_fi0, ↓y_isb, ↓y_ixt, ↓y_ixl, ↓y_lent, ↓y_lenl, ↓y_int, ↓y_tupl, ↓y_tupt, ↓y_lstt, ↓y_lstl, ↓y_slt, ↓y_sll, ↓y_repr, ↓y_at0, ↓y_at1, ↓y_at2, ↓y_at3, ↓y_at4, ↓y_st1, ↓y_st2, ↓y_st3, ↓y_st4, ↓y_exd, atI_0, atI_1, atI_2, atI_3, atI_4, cut_drop1]
    refine ⟨small (by simp), ?_⟩
    have hdi : ∀ (Q' : List PyData → Gs → Prop) (R : GX), Q' (rngD 0 k) [.own true hd, .val (.int far), .val (.str z), .unk] → dRng1 (dCons (dOp fDGet (dCall spRanks dNil) (dVar 2)) dNil) [.own true hd, .val (.int far), .val (.str z), .unk] Q' R := fun Q' R hq => by
      simp only [spRanks, fDGet, dcI, List.map_cons, List.map_nil, sign_ranks hz, dSeq, dRet, dRetN, dNext, dAndV, dOrV, dNotV, dIsi, dVar, dC, dUn, dOp, dCB, dCons, dNil, dTup, dLst, dTest, dAnd, dOr, dNot, dIf, dIfS, dAsg, dPar, dDrop, dAug, dAsgT, dgName, dgNil, dgCons, dgTup, dCall, dCallX, fInT, fIxT, dSl, dPart, dNoPart, dLenV, dIxV, dSlV, dApp, dExt, dPop, dSetIx, ownQ, putO, dYes, dSeqI, dEnum, dRng1, wipeG, startG, List.map_cons, List.map_nil, List.length_cons, List.length_nil, List.replicate, List.cons_append, List.nil_append, List.getElem?_cons_zero, List.getElem?_cons_succ, List.set_cons_zero, List.set_cons_succ, Nat.reduceAdd, Nat.reduceSub, Nat.zero_add, ne_eq, reduceCtorEq, not_false_eq_true, true_and, if_true, if_false, Bool.false_eq_true, decide_eq_true_eq, decide_true, decide_false, Bool.not_true, Bool.not_false, ite_true, ite_false, reduceIte, Option.some.injEq, exists_eq_left', List.drop_succ_cons, List.drop_zero, ↓y_wdv, ↓y_wdo, ↓y_wds0, ↓y_wds1, ↓y_okv, ↓y_oko, ↓y_addi, ↓y_adds, ↓y_addt, ↓y_addl, ↓y_muli, ↓y_mull, ↓y_eqi, ↓y_eqs, ↓y_nei, ↓y_nes, ↓y_eqt, ↓y_eql, ↓y_lti, ↓y_fi, ↓y_fi0, ↓y_isb, ↓y_ixt, ↓y_ixl, ↓y_lent, ↓y_lenl, ↓y_int, ↓y_tupl, ↓y_tupt, ↓y_lstt, ↓y_lstl, ↓y_slt, ↓y_sll, ↓y_repr, ↓y_at0, ↓y_at1, ↓y_at2, ↓y_at3, ↓y_at4, ↓y_st1, ↓y_st2, ↓y_st3, ↓y_st4, ↓y_exd, atI_0, atI_1, atI_2, atI_3, atI_4, cut_drop1]
      exact ⟨by omega, by omega, hq⟩
    refine hdi _ _ ⟨fun i acc Γ => ∃ hd', Γ = [.own true hd', .val (.int far), .val (.str z), .unk] ∧ HandOk hd' ∧ acc.length = i ∧ ∀ p ∈ acc, IsTr p ∧ dp p ≤ n ∧ nd p ≤ gN n, ⟨hd, rfl, hh, rfl, fun p hp => nomatch hp⟩, ?_, ?_⟩
    · rintro i acc Γ y hi ⟨hd', rfl, hh', hl, ha⟩
      have hi' : i < k := by
        have := (List.getElem?_eq_some_iff.mp hi).1
        rwa [rngD_len] at this
      have h2' := h2 (by omega)
      obtain ⟨m, rfl⟩ : ∃ m, n = m + 1 := ⟨n - 1, by omega⟩
      simp only [dCallH, dSeq, dRet, dRetN, dNext, dAndV, dOrV, dNotV, dIsi, dVar, dC, dUn, dOp, dCB, dCons, dNil, dTup, dLst, dTest, dAnd, dOr, dNot, dIf, dIfS, dAsg, dPar, dDrop, dAug, dAsgT, dgName, dgNil, dgCons, dgTup, dCall, dCallX, fInT, fIxT, dSl, dPart, dNoPart, dLenV, dIxV, dSlV, dApp, dExt, dPop, dSetIx, ownQ, putO, dYes, dSeqI, dEnum, dRng1, wipeG, startG, List.map_cons, List.map_nil, List.length_cons, List.length_nil, List.replicate, List.cons_append, List.nil_append, List.getElem?_cons_zero, List.getElem?_cons_succ, List.set_cons_zero, List.set_cons_succ, Nat.reduceAdd, Nat.reduceSub, Nat.zero_add, ne_eq, reduceCtorEq, not_false_eq_true, true_and, if_true, if_false, Bool.false_eq_true, decide_eq_true_eq, decide_true, decide_false, Bool.not_true, Bool.not_false, ite_true, ite_false, reduceIte, Option.some.injEq, exists_eq_left', List.drop_succ_cons, List.drop_zero, ↓y_wdv, ↓y_wdo, ↓y_wds0, ↓y_wds1, ↓y_okv, ↓y_oko, ↓y_addi, ↓y_adds, ↓y_addt, ↓y_addl, ↓y_muli, ↓y_mull, ↓y_eqi, ↓y_eqs, ↓y_nei, ↓y_nes, ↓y_eqt, ↓y_eql, ↓y_lti, ↓y_fi, ↓y_fi0, ↓y_isb, ↓y_ixt, ↓y_ixl, ↓y_lent, ↓y_lenl, ↓y_int, ↓y_tupl, ↓y_tupt, ↓y_lstt, ↓y_lstl, ↓y_slt, ↓y_sll, ↓y_repr, ↓y_at0, ↓y_at1, ↓y_at2, ↓y_at3, ↓y_at4, ↓y_st1, ↓y_st2, ↓y_st3, ↓y_st4, ↓y_exd, atI_0, atI_1, atI_2, atI_3, atI_4, cut_drop1]
      refine ⟨far - 1, rfl, by omega, hh', fun d hd2 ht hdd hnd hh2 => ?_⟩
      simp only [dSeq, dRet, dRetN, dNext, dAndV, dOrV, dNotV, dIsi, dVar, dC, dUn, dOp, dCB, dCons, dNil, dTup, dLst, dTest, dAnd, dOr, dNot, dIf, dIfS, dAsg, dPar, dDrop, dAug, dAsgT, dgName, dgNil, dgCons, dgTup, dCall, dCallX, fInT, fIxT, dSl, dPart, dNoPart, dLenV, dIxV, dSlV, dApp, dExt, dPop, dSetIx, ownQ, putO, dYes, dSeqI, dEnum, dRng1, wipeG, startG, List.map_cons, List.map_nil, List.length_cons, List.length_nil, List.replicate, List.cons_append, List.nil_append, List.getElem?_cons_zero, List.getElem?_cons_succ, List.set_cons_zero, List.set_cons_succ, Nat.reduceAdd, Nat.reduceSub, Nat.zero_add, ne_eq, reduceCtorEq, not_false_eq_true, true_and, if_true, if_false, Bool.false_eq_true, decide_eq_true_eq, decide_true, decide_false, Bool.not_true, Bool.not_false, ite_true, ite_false, reduceIte, Option.some.injEq, exists_eq_left', List.drop_succ_cons, List.drop_zero, ↓y_wdv, ↓y_wdo, ↓y_wds0, ↓y_wds1, ↓y_okv, ↓y_oko, ↓y_addi, ↓y_adds, ↓y_addt, ↓y_addl, ↓y_muli, ↓y_mull, ↓y_eqi, ↓y_eqs, ↓y_nei, ↓y_nes, ↓y_eqt, ↓y_eql, ↓y_lti, ↓y_fi, ↓y_fi0, ↓y_isb, ↓y_ixt, ↓y_ixl, ↓y_lent, ↓y_lenl, ↓y_int, ↓y_tupl, ↓y_tupt, ↓y_lstt, ↓y_lstl, ↓y_slt, ↓y_sll, ↓y_repr, ↓y_at0, ↓y_at1, ↓y_at2, ↓y_at3, ↓y_at4, ↓y_st1, ↓y_st2, ↓y_st3, ↓y_st4, ↓y_exd, atI_0, atI_1, atI_2, atI_3, atI_4, cut_drop1]
      refine ⟨Nat.lt_of_lt_of_le (by omega : acc.length < 2000) (small (Nat.le_refl _)), hd2, rfl, hh2, by simp; omega, fun p hp => ?_⟩
      rcases List.mem_append.mp hp with hp | hp
      · exact ha p hp
      · cases List.mem_singleton.mp hp
        exact ⟨ht, hdd, hnd⟩
    · rintro acc Γ ⟨hd', rfl, hh', hl, ha⟩
      rw [rngD_len] at hl
      simp only [dSeq, dRet, dRetN, dNext, dAndV, dOrV, dNotV, dIsi, dVar, dC, dUn, dOp, dCB, dCons, dNil, dTup, dLst, dTest, dAnd, dOr, dNot, dIf, dIfS, dAsg, dPar, dDrop, dAug, dAsgT, dgName, dgNil, dgCons, dgTup, dCall, dCallX, fInT, fIxT, dSl, dPart, dNoPart, dLenV, dIxV, dSlV, dApp, dExt, dPop, dSetIx, ownQ, putO, dYes, dSeqI, dEnum, dRng1, wipeG, startG, List.map_cons, List.map_nil, List.length_cons, List.length_nil, List.replicate, List.cons_append, List.nil_append, List.getElem?_cons_zero, List.getElem?_cons_succ, List.set_cons_zero, List.set_cons_succ, Nat.reduceAdd, Nat.reduceSub, Nat.zero_add, ne_eq, reduceCtorEq, not_false_eq_true, true_and, if_true, if_false, Bool.false_eq_true, decide_eq_true_eq, decide_true, decide_false, Bool.not_true, Bool.not_false, ite_true, ite_false, reduceIte, Option.some.injEq, exists_eq_left', List.drop_succ_cons, List.drop_zero, ↓y_wdv, ↓y_wdo, ↓y_wds0, ↓y_wds1, ↓y_okv, ↓y_oko, ↓y_addi, ↓y_adds, ↓y_addt, ↓y_addl, ↓y_muli, ↓y_mull, ↓y_eqi, ↓y_eqs, ↓y_nei, ↓y_nes, ↓y_eqt, ↓y_eql, ↓y_lti, ↓y_fi, ↓y_fi0, ↓y_isb, ↓y_ixt, ↓y_ixl, ↓y_lent, ↓y_lenl, ↓y_int, ↓y_tupl, ↓y_tupt, ↓y_lstt, ↓y_lstl, ↓y_slt, ↓y_sll, ↓y_repr, ↓y_at0, ↓y_at1, ↓y_at2, ↓y_at3, ↓y_at4, ↓y_st1, ↓y_st2, ↓y_st3, ↓y_st4, ↓y_exd, atI_0, atI_1, atI_2, atI_3, atI_4, cut_drop1]
      refine ⟨small (by omega), h _ _ (.mk (by rw [hz, hl]) fun p hp => (ha p hp).1) ?_ ?_ hh'⟩
      · rw [dp_node]
        have := dps_le.mpr fun p hp => (ha p hp).2.1
        omega
      · rw [nd_node, gN]
        have := sum_le_mul fun p hp => (ha p hp).2.2
        have h3 : acc.length * gN n ≤ 3 * gN n := Nat.mul_le_mul_right _ (by omega)
        omega
  have leaf : ∀ (hd : List PyData) (K : Gs → Prop), HandOk hd → (∀ Γ', (∃ (z : Str) (k : Nat) (hd : List PyData), Γ' = [.own true hd, .val (.int far), .val (.str z), .unk] ∧ rank z = some (k : Int) ∧ k ≤ 3 ∧ HandOk hd ∧ (k ≠ 0 → 2 ≤ far)) → K Γ') → ∀ (z : Str) (D : DEnd),
      dAsg 2 (dCallH spSome 0 (dCons (dLst (dCons (dC (.str "a")) (dCons (dC (.str "b")) (dCons (dC (.str "c")) dNil)))) dNil)) { D with nx := K } [.own true hd, .val (.int far), .val (.str z), .unk] := fun hd K hh hK z D => by
    simp only [dCallH, dSeq, dRet, dRetN, dNext, dAndV, dOrV, dNotV, dIsi, dVar, dC, dUn, dOp, dCB, dCons, dNil, dTup, dLst, dTest, dAnd, dOr, dNot, dIf, dIfS, dAsg, dPar, dDrop, dAug, dAsgT, dgName, dgNil, dgCons, dgTup, dCall, dCallX, fInT, fIxT, dSl, dPart, dNoPart, dLenV, dIxV, dSlV, dApp, dExt, dPop, dSetIx, ownQ, putO, dYes, dSeqI, dEnum, dRng1, wipeG, startG, List.map_cons, List.map_nil, List.length_cons, List.length_nil, List.replicate, List.cons_append, List.nil_append, List.getElem?_cons_zero, List.getElem?_cons_succ, List.set_cons_zero, List.set_cons_succ, Nat.reduceAdd, Nat.reduceSub, Nat.zero_add, ne_eq, reduceCtorEq, not_false_eq_true, true_and, if_true, if_false, Bool.false_eq_true, decide_eq_true_eq, decide_true, decide_false, Bool.not_true, Bool.not_false, ite_true, ite_false, reduceIte, Option.some.injEq, exists_eq_left', List.drop_succ_cons, List.drop_zero, ↓y_wdv, ↓y_wdo, ↓y_wds0, ↓y_wds1, ↓y_okv, ↓y_oko, ↓y_addi, ↓y_adds, ↓y_addt, ↓y_addl, ↓y_muli, ↓y_mull, ↓y_eqi, ↓y_eqs, ↓y_nei, ↓y_nes, ↓y_eqt, ↓y_eql, ↓y_lti, ↓y_fi, ↓y_fi0, ↓y_isb, ↓y_ixt, ↓y_ixl, ↓y_lent, ↓y_lenl, ↓y_int, ↓y_tupl, ↓y_tupt, ↓y_lstt, ↓y_lstl, ↓y_slt, ↓y_sll, ↓y_repr, ↓y_at0, ↓y_at1, ↓y_at2, ↓y_at3, ↓y_at4, ↓y_st1, ↓y_st2, ↓y_st3, ↓y_st4, ↓y_exd, atI_0, atI_1, atI_2, atI_3, atI_4, cut_drop1]
    refine ⟨small (by simp), hsome _ _ _ hh (by simp) (by simp) (fun x hd1 hx hh1 => ?_) _⟩
    simp only [List.mem_cons, List.not_mem_nil, or_false] at hx
    obtain ⟨z, k, rfl, hz, hk, h0⟩ := hsgn x (by rcases hx with h | h | h <;> simp only [h, true_or, or_true])
    simp only [dSeq, dRet, dRetN, dNext, dAndV, dOrV, dNotV, dIsi, dVar, dC, dUn, dOp, dCB, dCons, dNil, dTup, dLst, dTest, dAnd, dOr, dNot, dIf, dIfS, dAsg, dPar, dDrop, dAug, dAsgT, dgName, dgNil, dgCons, dgTup, dCall, dCallX, fInT, fIxT, dSl, dPart, dNoPart, dLenV, dIxV, dSlV, dApp, dExt, dPop, dSetIx, ownQ, putO, dYes, dSeqI, dEnum, dRng1, wipeG, startG, List.map_cons, List.map_nil, List.length_cons, List.length_nil, List.replicate, List.cons_append, List.nil_append, List.getElem?_cons_zero, List.getElem?_cons_succ, List.set_cons_zero, List.set_cons_succ, Nat.reduceAdd, Nat.reduceSub, Nat.zero_add, ne_eq, reduceCtorEq, not_false_eq_true, true_and, if_true, if_false, Bool.false_eq_true, decide_eq_true_eq, decide_true, decide_false, Bool.not_true, Bool.not_false, ite_true, ite_false, reduceIte, Option.some.injEq, exists_eq_left', List.drop_succ_cons, List.drop_zero, ↓y_wdv, ↓y_wdo, ↓y_wds0, ↓y_wds1, ↓y_okv, ↓y_oko, ↓y_addi, ↓y_adds, ↓y_addt, ↓y_addl, ↓y_muli, ↓y_mull, ↓y_eqi, ↓y_eqs, ↓y_nei, ↓y_nes, ↓y_eqt, ↓y_eql, ↓y_lti, ↓y_fi, ↓y_fi0, ↓y_isb, ↓y_ixt, ↓y_ixl, ↓y_lent, ↓y_lenl, ↓y_int, ↓y_tupl, ↓y_tupt, ↓y_lstt, ↓y_lstl, ↓y_slt, ↓y_sll, ↓y_repr, ↓y_at0, ↓y_at1, ↓y_at2, ↓y_at3, ↓y_at4, ↓y_st1, ↓y_st2, ↓y_st3, ↓y_st4, ↓y_exd, atI_0, atI_1, atI_2, atI_3, atI_4, cut_drop1]
    exact hK _ ⟨z, k, hd1, rfl, hz, hk, hh1, fun q => absurd (h0 hx) q⟩
  have seqP : ∀ {a rest : DS} {D : DEnd} {Γ : Gs} (P : Gs → Prop), (∀ K : Gs → Prop, (∀ Γ', P Γ' → K Γ') → a { D with nx := K } Γ) → (∀ Γ', P Γ' → rest D Γ') → dSeq a rest D Γ := fun P h1 h2 => h1 _ h2
  refine seqP (fun Γ' => ∃ (z : Str) (k : Nat) (hd : List PyData), Γ' = [.own true hd, .val (.int far), .val (.str z), .unk] ∧ rank z = some (k : Int) ∧ k ≤ 3 ∧ HandOk hd) (fun K hK => ?_) ?_
  · simp only [dCallH, dSeq, dRet, dRetN, dNext, dAndV, dOrV, dNotV, dIsi, dVar, dC, dUn, dOp, dCB, dCons, dNil, dTup, dLst, dTest, dAnd, dOr, dNot, dIf, dIfS, dAsg, dPar, dDrop, dAug, dAsgT, dgName, dgNil, dgCons, dgTup, dCall, dCallX, fInT, fIxT, dSl, dPart, dNoPart, dLenV, dIxV, dSlV, dApp, dExt, dPop, dSetIx, ownQ, putO, dYes, dSeqI, dEnum, dRng1, wipeG, startG, List.map_cons, List.map_nil, List.length_cons, List.length_nil, List.replicate, List.cons_append, List.nil_append, List.getElem?_cons_zero, List.getElem?_cons_succ, List.set_cons_zero, List.set_cons_succ, Nat.reduceAdd, Nat.reduceSub, Nat.zero_add, ne_eq, reduceCtorEq, not_false_eq_true, true_and, if_true, if_false, Bool.false_eq_true, decide_eq_true_eq, decide_true, decide_false, Bool.not_true, Bool.not_false, ite_true, ite_false, reduceIte, Option.some.injEq, exists_eq_left', List.drop_succ_cons, List.drop_zero, ↓y_wdv, ↓y_wdo, ↓y_wds0, ↓y_wds1, ↓y_okv, ↓y_oko, ↓y_addi, ↓y_adds, ↓y_addt, ↓y_addl, ↓y_muli, ↓y_mull, ↓y_eqi, ↓y_eqs, ↓y_nei, ↓y_nes, ↓y_eqt, ↓y_eql, ↓y_lti, ↓y_fi, ↓y_fi0, ↓y_isb, ↓y_ixt, ↓y_ixl, ↓y_lent, ↓y_lenl, ↓y_int, ↓y_tupl, ↓y_tupt, ↓y_lstt, ↓y_lstl, ↓y_slt, ↓y_sll, ↓y_repr, ↓y_at0, ↓y_at1, ↓y_at2, ↓y_at3, ↓y_at4, ↓y_st1, ↓y_st2, ↓y_st3, ↓y_st4, ↓y_exd, atI_0, atI_1, atI_2, atI_3, atI_4, cut_drop1]
    refine ⟨small (by simp), hsome _ _ _ hh (by simp) (by simp) (fun x hd1 hx hh1 => ?_) _⟩
    simp only [List.mem_cons, List.not_mem_nil, or_false] at hx
    obtain ⟨z, k, rfl, hz, hk, _⟩ := hsgn x (by rcases hx with h | h | h | h | h | h | h <;> simp only [h, true_or, or_true])
    simp only [dSeq, dRet, dRetN, dNext, dAndV, dOrV, dNotV, dIsi, dVar, dC, dUn, dOp, dCB, dCons, dNil, dTup, dLst, dTest, dAnd, dOr, dNot, dIf, dIfS, dAsg, dPar, dDrop, dAug, dAsgT, dgName, dgNil, dgCons, dgTup, dCall, dCallX, fInT, fIxT, dSl, dPart, dNoPart, dLenV, dIxV, dSlV, dApp, dExt, dPop, dSetIx, ownQ, putO, dYes, dSeqI, dEnum, dRng1, wipeG, startG, List.map_cons, List.map_nil, List.length_cons, List.length_nil, List.replicate, List.cons_append, List.nil_append, List.getElem?_cons_zero, List.getElem?_cons_succ, List.set_cons_zero, List.set_cons_succ, Nat.reduceAdd, Nat.reduceSub, Nat.zero_add, ne_eq, reduceCtorEq, not_false_eq_true, true_and, if_true, if_false, Bool.false_eq_true, decide_eq_true_eq, decide_true, decide_false, Bool.not_true, Bool.not_false, ite_true, ite_false, reduceIte, Option.some.injEq, exists_eq_left', List.drop_succ_cons, List.drop_zero, ↓y_wdv, ↓y_wdo, ↓y_wds0, ↓y_wds1, ↓y_okv, ↓y_oko, ↓y_addi, ↓y_adds, ↓y_addt, ↓y_addl, ↓y_muli, ↓y_mull, ↓y_eqi, ↓y_eqs, ↓y_nei, ↓y_nes, ↓y_eqt, ↓y_eql, ↓y_lti, ↓y_fi, ↓y_fi0, ↓y_isb, ↓y_ixt, ↓y_ixl, ↓y_lent, ↓y_lenl, ↓y_int, ↓y_tupl, ↓y_tupt, ↓y_lstt, ↓y_lstl, ↓y_slt, ↓y_sll, ↓y_repr, ↓y_at0, ↓y_at1, ↓y_at2, ↓y_at3, ↓y_at4, ↓y_st1, ↓y_st2, ↓y_st3, ↓y_st4, ↓y_exd, atI_0, atI_1, atI_2, atI_3, atI_4, cut_drop1]
    exact hK _ ⟨z, k, hd1, rfl, hz, hk, hh1⟩
  rintro Γ ⟨z, k, hd1, rfl, hz, hk, hh1⟩
  refine seqP (fun Γ' => ∃ (z : Str) (k : Nat) (hd : List PyData), Γ' = [.own true hd, .val (.int far), .val (.str z), .unk] ∧ rank z = some (k : Int) ∧ k ≤ 3 ∧ HandOk hd ∧ (k ≠ 0 → 2 ≤ far)) (fun K hK => ?_) (fun Γ' hP => ?_)
  · show dIfS _ _ _ _ [.own true hd1, .val (.int far), .val (.str z), .unk]
    have tst : ∀ (Q : Bool → Gs → Prop) (R : GX), (∀ (c : Bool) (hd2 : List PyData), HandOk hd2 → (c = false → 2 ≤ far) → Q c [.own true hd2, .val (.int far), .val (.str z), .unk]) → dOr (dTest (dOp fLt (dVar 1) (dC (.int 2)))) (dTest (dOp fEq (dCallH spDraw 0 (dCons (dC (.int 4)) dNil)) (dC (.int 0)))) [.own true hd1, .val (.int far), .val (.str z), .unk] Q R := fun Q R hQ => by
      simp only [dCallH, dSeq, dRet, dRetN, dNext, dAndV, dOrV, dNotV, dIsi, dVar, dC, dUn, dOp, dCB, dCons, dNil, dTup, dLst, dTest, dAnd, dOr, dNot, dIf, dIfS, dAsg, dPar, dDrop, dAug, dAsgT, dgName, dgNil, dgCons, dgTup, dCall, dCallX, fInT, fIxT, dSl, dPart, dNoPart, dLenV, dIxV, dSlV, dApp, dExt, dPop, dSetIx, ownQ, putO, dYes, dSeqI, dEnum, dRng1, wipeG, startG, List.map_cons, List.map_nil, List.length_cons, List.length_nil, List.replicate, List.cons_append, List.nil_append, List.getElem?_cons_zero, List.getElem?_cons_succ, List.set_cons_zero, List.set_cons_succ, Nat.reduceAdd, Nat.reduceSub, Nat.zero_add, ne_eq, reduceCtorEq, not_false_eq_true, true_and, if_true, if_false, Bool.false_eq_true, decide_eq_true_eq, decide_true, decide_false, Bool.not_true, Bool.not_false, ite_true, ite_false, reduceIte, Option.some.injEq, exists_eq_left', List.drop_succ_cons, List.drop_zero, ↓y_wdv, ↓y_wdo, ↓y_wds0, ↓y_wds1, ↓y_okv, ↓y_oko, ↓y_addi, ↓y_adds, ↓y_addt, ↓y_addl, ↓y_muli, ↓y_mull, ↓y_eqi, ↓y_eqs, ↓y_nei, ↓y_nes, ↓y_eqt, ↓y_eql, ↓y_lti, ↓y_fi, ↓y_fi0, ↓y_isb, ↓y_ixt, ↓y_ixl, ↓y_lent, ↓y_lenl, ↓y_int, ↓y_tupl, ↓y_tupt, ↓y_lstt, ↓y_lstl, ↓y_slt, ↓y_sll, ↓y_repr, ↓y_at0, ↓y_at1, ↓y_at2, ↓y_at3, ↓y_at4, ↓y_st1, ↓y_st2, ↓y_st3, ↓y_st4, ↓y_exd, atI_0, atI_1, atI_2, atI_3, atI_4, cut_drop1]
      by_cases c : far < 2
      · rw [if_pos c]
        exact hQ true hd1 hh1 fun q => nomatch q
      · rw [if_neg c]
        refine ⟨4, rfl, by decide, by decide, hh1, fun r hd2 r0 r1 hh2 => ?_⟩
        simp only [dSeq, dRet, dRetN, dNext, dAndV, dOrV, dNotV, dIsi, dVar, dC, dUn, dOp, dCB, dCons, dNil, dTup, dLst, dTest, dAnd, dOr, dNot, dIf, dIfS, dAsg, dPar, dDrop, dAug, dAsgT, dgName, dgNil, dgCons, dgTup, dCall, dCallX, fInT, fIxT, dSl, dPart, dNoPart, dLenV, dIxV, dSlV, dApp, dExt, dPop, dSetIx, ownQ, putO, dYes, dSeqI, dEnum, dRng1, wipeG, startG, List.map_cons, List.map_nil, List.length_cons, List.length_nil, List.replicate, List.cons_append, List.nil_append, List.getElem?_cons_zero, List.getElem?_cons_succ, List.set_cons_zero, List.set_cons_succ, Nat.reduceAdd, Nat.reduceSub, Nat.zero_add, ne_eq, reduceCtorEq, not_false_eq_true, true_and, if_true, if_false, Bool.false_eq_true, decide_eq_true_eq, decide_true, decide_false, Bool.not_true, Bool.not_false, ite_true, ite_false, reduceIte, Option.some.injEq, exists_eq_left', List.drop_succ_cons, List.drop_zero, ↓y_wdv, ↓y_wdo, ↓y_wds0, ↓y_wds1, ↓y_okv, ↓y_oko, ↓y_addi, ↓y_adds, ↓y_addt, ↓y_addl, ↓y_muli, ↓y_mull, ↓y_eqi, ↓y_eqs, ↓y_nei, ↓y_nes, ↓y_eqt, ↓y_eql, ↓y_lti, ↓y_fi, ↓y_fi0, ↓y_isb, ↓y_ixt, ↓y_ixl, ↓y_lent, ↓y_lenl, ↓y_int, ↓y_tupl, ↓y_tupt, ↓y_lstt, ↓y_lstl, ↓y_slt, ↓y_sll, ↓y_repr, ↓y_at0, ↓y_at1, ↓y_at2, ↓y_at3, ↓y_at4, ↓y_st1, ↓y_st2, ↓y_st3, ↓y_st4, ↓y_exd, atI_0, atI_1, atI_2, atI_3, atI_4, cut_drop1]
        exact hQ _ hd2 hh2 fun _ => by omega
    refine tst _ _ fun c hd2 hh2 hc => ?_
    cases c with
    | true => exact leaf hd2 K hh2 hK z _
    | false => exact hK _ ⟨z, k, hd2, rfl, hz, hk, hh2, fun _ => hc rfl⟩
  · obtain ⟨z', k', hd', rfl, hz', hk', hh', h2'⟩ := hP
    exact rest z' k' hd' hz' hk' hh' h2' _ rfl
end K00

namespace K00
open PySem PySem.Spec PyProof.Rows L2 LamX DL
def db_ulaw_nodes (sp_ulaw_nodes : SpP)  : DS := (dRet (dOp fAdd (dC (.int 1)) (dCB fSum (dCons (dLc (dSeqI (dSl (dVar 0) (dPart (dC (.int 1))) dNoPart)) (dgName 1) dYes (dCall sp_ulaw_nodes (dCons (dVar 1) dNil)) [1]) dNil))))
theorem c_ulaw_nodes {P : Program} {w : World} {K : PySem.W.Frag} {mg : Str → Option Value} {base : Heap} {T : List (Addr × Str)} {k : Nat} {sp_ulaw_nodes : SpP} {sp : SpP} (D : DefAt K mg "_law_nodes" s_ulaw_nodes ["tree"]) (B : Bi mg builtL) (F_ulaw_nodes : Cal P w K mg base CX0 k "_law_nodes" (liftP K T sp_ulaw_nodes)) (hlen : ∀ as Q R, sp as Q R → as.length = 1) (law : ∀ as Q0 R0, sp as Q0 R0 → db_ulaw_nodes sp_ulaw_nodes  { nx := fun _ => Q0 (.val .none), rt := fun g _ => g ≠ .unk ∧ Q0 g } (startG 2 as)) :
    Cal P w K mg base CX0 (k + 1) "_law_nodes" (liftP K T sp) := by
  have sc := sc_ulaw_nodes
  have hj : k ≤ k := by omega
  exact D.mkP sc _ hlen (fun f cdv A outer s H E hr as Q0 R0 h => ⟨_, _, (by exact (ss_one (s_ret (e_bin (k_add K) (e_int) (k_cb (q_sum K) PyProof.Rows.boot_sum (B "sum" (by decide)) (as_cons (e_lc rfl sc.nd (k_seq K (k_sl K (e_var 0) (o_some (e_int)) o_none)) (own := [("part", 1)]) (blkOk_by rfl) (tgin_name (by decide)) (fun _ _ _ _ _ => (g_name 1 sc.nd)) (fun _ _ _ _ _ => ts_nil) (fun _ _ _ _ _ => (k_c F_ulaw_nodes hr (as_cons (e_var 1) as_nil) hj))) as_nil)))))), law as Q0 R0 h⟩)
theorem sum_cast (f : PyData → Nat) : ∀ ps : List PyData, (ps.map fun p => (f p : Int)).sum = (((ps.map f).sum : Nat) : Int)
  | [] => rfl
  | p :: r => by simp [sum_cast f r]
theorem l_ulaw_nodes (n : Nat) : ∀ as Q0 R0, spNodes (n + 1) as Q0 R0 → db_ulaw_nodes (spNodes n) { nx := fun _ => Q0 (.val .none), rt := fun g _ => g ≠ .unk ∧ Q0 g } (startG 2 as) := by
  rintro _ Q0 R0 ⟨d, rfl, ht, hd, h⟩
  obtain ⟨z, ps, rfl, hr, hps, h4⟩ := ht.inv
  rw [dp_node] at hd
  simp only [db_ulaw_nodes, dSeq, dRet, dRetN, dNext, dAndV, dOrV, dNotV, dIsi, dVar, dC, dUn, dOp, dCB, dCons, dNil, dTup, dLst, dTest, dAnd, dOr, dNot, dIf, dIfS, dAsg, dPar, dDrop, dAug, dAsgT, dgName, dgNil, dgCons, dgTup, dCall, dCallX, fInT, fIxT, dSl, dPart, dNoPart, dLenV, dIxV, dSlV, dApp, dExt, dPop, dSetIx, ownQ, putO, dYes, dSeqI, dEnum, dRng1, wipeG, startG, List.map_cons, List.map_nil, List.length_cons, List.length_nil, List.replicate, List.cons_append, List.nil_append, List.getElem?_cons_zero, List.getElem?_cons_succ, List.set_cons_zero, List.set_cons_succ, Nat.reduceAdd, Nat.reduceSub, Nat.zero_add, ne_eq, reduceCtorEq, not_false_eq_true, true_and, if_true, if_false, Bool.false_eq_true, decide_eq_true_eq, decide_true, decide_false, Bool.not_true, Bool.not_false, ite_true, ite_false, reduceIte, Option.some.injEq, exists_eq_left', List.drop_succ_cons, List.drop_zero, ↓y_wdv, ↓y_wdo, ↓y_wds0, ↓y_wds1, ↓y_okv, ↓y_oko, ↓y_addi, ↓y_adds, ↓y_addt, ↓y_addl, ↓y_muli, ↓y_mull, ↓y_eqi, ↓y_eqs, ↓y_nei, ↓y_nes, ↓y_eqt, ↓y_eql, ↓y_lti, ↓y_fi, ↓y_fi0, ↓y_isb, ↓y_ixt, ↓y_ixl, ↓y_lent, ↓y_lenl, ↓y_int, ↓y_tupl, ↓y_tupt, ↓y_lstt, ↓y_lstl, ↓y_slt, ↓y_sll, ↓y_repr, ↓y_at0, ↓y_at1, ↓y_at2, ↓y_at3, ↓y_at4, ↓y_st1, ↓y_st2, ↓y_st3, ↓y_st4, ↓y_exd, atI_0, atI_1, atI_2, atI_3, atI_4, cut_drop1]
  refine lc_map (items := ps) (f := fun p => .int (nd p)) (fun Q' hq => ?_) rfl (small (by omega)) (fun p hp Q' hq => ?_) ?_
  · simp only [dSeq, dRet, dRetN, dNext, dAndV, dOrV, dNotV, dIsi, dVar, dC, dUn, dOp, dCB, dCons, dNil, dTup, dLst, dTest, dAnd, dOr, dNot, dIf, dIfS, dAsg, dPar, dDrop, dAug, dAsgT, dgName, dgNil, dgCons, dgTup, dCall, dCallX, fInT, fIxT, dSl, dPart, dNoPart, dLenV, dIxV, dSlV, dApp, dExt, dPop, dSetIx, ownQ, putO, dYes, dSeqI, dEnum, dRng1, wipeG, startG, List.map_cons, List.map_nil, List.length_cons, List.length_nil, List.replicate, List.cons_append, List.nil_append, List.getElem?_cons_zero, List.getElem?_cons_succ, List.set_cons_zero, List.set_cons_succ, Nat.reduceAdd, Nat.reduceSub, Nat.zero_add, ne_eq, reduceCtorEq, not_false_eq_true, true_and, if_true, if_false, Bool.false_eq_true, decide_eq_true_eq, decide_true, decide_false, Bool.not_true, Bool.not_false, ite_true, ite_false, reduceIte, Option.some.injEq, exists_eq_left', List.drop_succ_cons, List.drop_zero, ↓y_wdv, ↓y_wdo, ↓y_wds0, ↓y_wds1, ↓y_okv, ↓y_oko, ↓y_addi, ↓y_adds, ↓y_addt, ↓y_addl, ↓y_muli, ↓y_mull, ↓y_eqi, ↓y_eqs, ↓y_nei, ↓y_nes, ↓y_eqt, ↓y_eql, ↓y_lti, ↓y_fi, ↓y_fi0, ↓y_isb, ↓y_ixt, ↓y_ixl, ↓y_lent, ↓y_lenl, ↓y_int, ↓y_tupl, ↓y_tupt, ↓y_lstt, ↓y_lstl, ↓y_slt, ↓y_sll, ↓y_repr, ↓y_at0, ↓y_at1, ↓y_at2, ↓y_at3, ↓y_at4, ↓y_st1, ↓y_st2, ↓y_st3, ↓y_st4, ↓y_exd, atI_0, atI_1, atI_2, atI_3, atI_4, cut_drop1]
    exact hq
  · simp only [dSeq, dRet, dRetN, dNext, dAndV, dOrV, dNotV, dIsi, dVar, dC, dUn, dOp, dCB, dCons, dNil, dTup, dLst, dTest, dAnd, dOr, dNot, dIf, dIfS, dAsg, dPar, dDrop, dAug, dAsgT, dgName, dgNil, dgCons, dgTup, dCall, dCallX, fInT, fIxT, dSl, dPart, dNoPart, dLenV, dIxV, dSlV, dApp, dExt, dPop, dSetIx, ownQ, putO, dYes, dSeqI, dEnum, dRng1, wipeG, startG, List.map_cons, List.map_nil, List.length_cons, List.length_nil, List.replicate, List.cons_append, List.nil_append, List.getElem?_cons_zero, List.getElem?_cons_succ, List.set_cons_zero, List.set_cons_succ, Nat.reduceAdd, Nat.reduceSub, Nat.zero_add, ne_eq, reduceCtorEq, not_false_eq_true, true_and, if_true, if_false, Bool.false_eq_true, decide_eq_true_eq, decide_true, decide_false, Bool.not_true, Bool.not_false, ite_true, ite_false, reduceIte, Option.some.injEq, exists_eq_left', List.drop_succ_cons, List.drop_zero, ↓y_wdv, ↓y_wdo, ↓y_wds0, ↓y_wds1, ↓y_okv, ↓y_oko, ↓y_addi, ↓y_adds, ↓y_addt, ↓y_addl, ↓y_muli, ↓y_mull, ↓y_eqi, ↓y_eqs, ↓y_nei, ↓y_nes, ↓y_eqt, ↓y_eql, ↓y_lti, ↓y_fi, ↓y_fi0, ↓y_isb, ↓y_ixt, ↓y_ixl, ↓y_lent, ↓y_lenl, ↓y_int, ↓y_tupl, ↓y_tupt, ↓y_lstt, ↓y_lstl, ↓y_slt, ↓y_sll, ↓y_repr, ↓y_at0, ↓y_at1, ↓y_at2, ↓y_at3, ↓y_at4, ↓y_st1, ↓y_st2, ↓y_st3, ↓y_st4, ↓y_exd, atI_0, atI_1, atI_2, atI_3, atI_4, cut_drop1]
    have hp1 : dp p ≤ dps ps := dps_le.mp (Nat.le_refl _) p hp
    have := dp_pos p
    obtain ⟨m, rfl⟩ : ∃ m, n = m + 1 := ⟨n - 1, by omega⟩
    exact ⟨p, rfl, hps p hp, by omega, hq _ (by rfl)⟩
  · simp only [fSum, dSeq, dRet, dRetN, dNext, dAndV, dOrV, dNotV, dIsi, dVar, dC, dUn, dOp, dCB, dCons, dNil, dTup, dLst, dTest, dAnd, dOr, dNot, dIf, dIfS, dAsg, dPar, dDrop, dAug, dAsgT, dgName, dgNil, dgCons, dgTup, dCall, dCallX, fInT, fIxT, dSl, dPart, dNoPart, dLenV, dIxV, dSlV, dApp, dExt, dPop, dSetIx, ownQ, putO, dYes, dSeqI, dEnum, dRng1, wipeG, startG, List.map_cons, List.map_nil, List.length_cons, List.length_nil, List.replicate, List.cons_append, List.nil_append, List.getElem?_cons_zero, List.getElem?_cons_succ, List.set_cons_zero, List.set_cons_succ, Nat.reduceAdd, Nat.reduceSub, Nat.zero_add, ne_eq, reduceCtorEq, not_false_eq_true, true_and, if_true, if_false, Bool.false_eq_true, decide_eq_true_eq, decide_true, decide_false, Bool.not_true, Bool.not_false, ite_true, ite_false, reduceIte, Option.some.injEq, exists_eq_left', List.drop_succ_cons, List.drop_zero, ↓y_wdv, ↓y_wdo, ↓y_wds0, ↓y_wds1, ↓y_okv, ↓y_oko, ↓y_addi, ↓y_adds, ↓y_addt, ↓y_addl, ↓y_muli, ↓y_mull, ↓y_eqi, ↓y_eqs, ↓y_nei, ↓y_nes, ↓y_eqt, ↓y_eql, ↓y_lti, ↓y_fi, ↓y_fi0, ↓y_isb, ↓y_ixt, ↓y_ixl, ↓y_lent, ↓y_lenl, ↓y_int, ↓y_tupl, ↓y_tupt, ↓y_lstt, ↓y_lstl, ↓y_slt, ↓y_sll, ↓y_repr, ↓y_at0, ↓y_at1, ↓y_at2, ↓y_at3, ↓y_at4, ↓y_st1, ↓y_st2, ↓y_st3, ↓y_st4, ↓y_exd, atI_0, atI_1, atI_2, atI_3, atI_4, cut_drop1]
    refine ⟨ps.map fun p => (nd p : Int), by rw [List.map_map]; rfl, ?_⟩
    have e : 1 + (ps.map fun p => (nd p : Int)).sum = ((nd (.tuple (.str z :: ps)) : Nat) : Int) := by
      rw [sum_cast, ← nds_eq, nd_node]; omega
    rw [e]
    exact h
end K00

namespace K00
open PySem PySem.Spec PyProof.Rows L2 LamX DL
def db_ulaw_deep (sp_ulaw_deep : SpP)  : DS := (dRet (dOp fAdd (dC (.int 1)) (dCB fMax (dCons (dOp fAdd (dLst (dCons (dC (.int 0)) dNil)) (dLc (dSeqI (dSl (dVar 0) (dPart (dC (.int 1))) dNoPart)) (dgName 1) dYes (dCall sp_ulaw_deep (dCons (dVar 1) dNil)) [1])) dNil))))
theorem c_ulaw_deep {P : Program} {w : World} {K : PySem.W.Frag} {mg : Str → Option Value} {base : Heap} {T : List (Addr × Str)} {k : Nat} {sp_ulaw_deep : SpP} {sp : SpP} (D : DefAt K mg "_law_deep" s_ulaw_deep ["tree"]) (B : Bi mg builtL) (F_ulaw_deep : Cal P w K mg base CX0 k "_law_deep" (liftP K T sp_ulaw_deep)) (hlen : ∀ as Q R, sp as Q R → as.length = 1) (law : ∀ as Q0 R0, sp as Q0 R0 → db_ulaw_deep sp_ulaw_deep  { nx := fun _ => Q0 (.val .none), rt := fun g _ => g ≠ .unk ∧ Q0 g } (startG 2 as)) :
    Cal P w K mg base CX0 (k + 1) "_law_deep" (liftP K T sp) := by
  have sc := sc_ulaw_deep
  have hj : k ≤ k := by omega
  exact D.mkP sc _ hlen (fun f cdv A outer s H E hr as Q0 R0 h => ⟨_, _, (by exact (ss_one (s_ret (e_bin (k_add K) (e_int) (k_cb (q_max K) PyProof.Rows.boot_max (B "max" (by decide)) (as_cons (e_bin (k_add K) (e_lst (as_cons (e_int) as_nil)) (e_lc rfl sc.nd (k_seq K (k_sl K (e_var 0) (o_some (e_int)) o_none)) (own := [("part", 1)]) (blkOk_by rfl) (tgin_name (by decide)) (fun _ _ _ _ _ => (g_name 1 sc.nd)) (fun _ _ _ _ _ => ts_nil) (fun _ _ _ _ _ => (k_c F_ulaw_deep hr (as_cons (e_var 1) as_nil) hj)))) as_nil)))))), law as Q0 R0 h⟩)
theorem l_ulaw_deep (n : Nat) : ∀ as Q0 R0, spDp (n + 1) as Q0 R0 → db_ulaw_deep (spDp n) { nx := fun _ => Q0 (.val .none), rt := fun g _ => g ≠ .unk ∧ Q0 g } (startG 2 as) := by
  rintro _ Q0 R0 ⟨d, rfl, ht, hd, h⟩
  obtain ⟨z, ps, rfl, hr, hps, h4⟩ := ht.inv
  rw [dp_node] at hd
  simp only [db_ulaw_deep, dSeq, dRet, dRetN, dNext, dAndV, dOrV, dNotV, dIsi, dVar, dC, dUn, dOp, dCB, dCons, dNil, dTup, dLst, dTest, dAnd, dOr, dNot, dIf, dIfS, dAsg, dPar, dDrop, dAug, dAsgT, dgName, dgNil, dgCons, dgTup, dCall, dCallX, fInT, fIxT, dSl, dPart, dNoPart, dLenV, dIxV, dSlV, dApp, dExt, dPop, dSetIx, ownQ, putO, dYes, dSeqI, dEnum, dRng1, wipeG, startG, List.map_cons, List.map_nil, List.length_cons, List.length_nil, List.replicate, List.cons_append, List.nil_append, List.getElem?_cons_zero, List.getElem?_cons_succ, List.set_cons_zero, List.set_cons_succ, Nat.reduceAdd, Nat.reduceSub, Nat.zero_add, ne_eq, reduceCtorEq, not_false_eq_true, true_and, if_true, if_false, Bool.false_eq_true, decide_eq_true_eq, decide_true, decide_false, Bool.not_true, Bool.not_false, ite_true, ite_false, reduceIte, Option.some.injEq, exists_eq_left', List.drop_succ_cons, List.drop_zero, ↓y_wdv, ↓y_wdo, ↓y_wds0, ↓y_wds1, ↓y_okv, ↓y_oko, ↓y_addi, ↓y_adds, ↓y_addt, ↓y_addl, ↓y_muli, ↓y_mull, ↓y_eqi, ↓y_eqs, ↓y_nei, ↓y_nes, ↓y_eqt, ↓y_eql, ↓y_lti, ↓y_fi, ↓y_fi0, ↓y_isb, ↓y_ixt, ↓y_ixl, ↓y_lent, ↓y_lenl, ↓y_int, ↓y_tupl, ↓y_tupt, ↓y_lstt, ↓y_lstl, ↓y_slt, ↓y_sll, ↓y_repr, ↓y_at0, ↓y_at1, ↓y_at2, ↓y_at3, ↓y_at4, ↓y_st1, ↓y_st2, ↓y_st3, ↓y_st4, ↓y_exd, atI_0, atI_1, atI_2, atI_3, atI_4, cut_drop1]
  refine ⟨small (by omega), ?_⟩
  refine lc_map (items := ps) (f := fun p => .int (dp p)) (fun Q' hq => ?_) rfl (small (by omega)) (fun p hp Q' hq => ?_) ?_
  · simp only [dSeq, dRet, dRetN, dNext, dAndV, dOrV, dNotV, dIsi, dVar, dC, dUn, dOp, dCB, dCons, dNil, dTup, dLst, dTest, dAnd, dOr, dNot, dIf, dIfS, dAsg, dPar, dDrop, dAug, dAsgT, dgName, dgNil, dgCons, dgTup, dCall, dCallX, fInT, fIxT, dSl, dPart, dNoPart, dLenV, dIxV, dSlV, dApp, dExt, dPop, dSetIx, ownQ, putO, dYes, dSeqI, dEnum, dRng1, wipeG, startG, List.map_cons, List.map_nil, List.length_cons, List.length_nil, List.replicate, List.cons_append, List.nil_append, List.getElem?_cons_zero, List.getElem?_cons_succ, List.set_cons_zero, List.set_cons_succ, Nat.reduceAdd, Nat.reduceSub, Nat.zero_add, ne_eq, reduceCtorEq, not_false_eq_true, true_and, if_true, if_false, Bool.false_eq_true, decide_eq_true_eq, decide_true, decide_false, Bool.not_true, Bool.not_false, ite_true, ite_false, reduceIte, Option.some.injEq, exists_eq_left', List.drop_succ_cons, List.drop_zero, ↓y_wdv, ↓y_wdo, ↓y_wds0, ↓y_wds1, ↓y_okv, ↓y_oko, ↓y_addi, ↓y_adds, ↓y_addt, ↓y_addl, ↓y_muli, ↓y_mull, ↓y_eqi, ↓y_eqs, ↓y_nei, ↓y_nes, ↓y_eqt, ↓y_eql, ↓y_lti, ↓y_fi, ↓y_fi0, ↓y_isb, ↓y_ixt, ↓y_ixl, ↓y_lent, ↓y_lenl, ↓y_int, ↓y_tupl, ↓y_tupt, ↓y_lstt, ↓y_lstl, ↓y_slt, ↓y_sll, ↓y_repr, ↓y_at0, ↓y_at1, ↓y_at2, ↓y_at3, ↓y_at4, ↓y_st1, ↓y_st2, ↓y_st3, ↓y_st4, ↓y_exd, atI_0, atI_1, atI_2, atI_3, atI_4, cut_drop1]
    exact hq
  · simp only [dSeq, dRet, dRetN, dNext, dAndV, dOrV, dNotV, dIsi, dVar, dC, dUn, dOp, dCB, dCons, dNil, dTup, dLst, dTest, dAnd, dOr, dNot, dIf, dIfS, dAsg, dPar, dDrop, dAug, dAsgT, dgName, dgNil, dgCons, dgTup, dCall, dCallX, fInT, fIxT, dSl, dPart, dNoPart, dLenV, dIxV, dSlV, dApp, dExt, dPop, dSetIx, ownQ, putO, dYes, dSeqI, dEnum, dRng1, wipeG, startG, List.map_cons, List.map_nil, List.length_cons, List.length_nil, List.replicate, List.cons_append, List.nil_append, List.getElem?_cons_zero, List.getElem?_cons_succ, List.set_cons_zero, List.set_cons_succ, Nat.reduceAdd, Nat.reduceSub, Nat.zero_add, ne_eq, reduceCtorEq, not_false_eq_true, true_and, if_true, if_false, Bool.false_eq_true, decide_eq_true_eq, decide_true, decide_false, Bool.not_true, Bool.not_false, ite_true, ite_false, reduceIte, Option.some.injEq, exists_eq_left', List.drop_succ_cons, List.drop_zero, ↓y_wdv, ↓y_wdo, ↓y_wds0, ↓y_wds1, ↓y_okv, ↓y_oko, ↓y_addi, ↓y_adds, ↓y_addt, ↓y_addl, ↓y_muli, ↓y_mull, ↓y_eqi, ↓y_eqs, ↓y_nei, ↓y_nes, ↓y_eqt, ↓y_eql, ↓y_lti, ↓y_fi, ↓y_fi0, ↓y_isb, ↓y_ixt, ↓y_ixl, ↓y_lent, ↓y_lenl, ↓y_int, ↓y_tupl, ↓y_tupt, ↓y_lstt, ↓y_lstl, ↓y_slt, ↓y_sll, ↓y_repr, ↓y_at0, ↓y_at1, ↓y_at2, ↓y_at3, ↓y_at4, ↓y_st1, ↓y_st2, ↓y_st3, ↓y_st4, ↓y_exd, atI_0, atI_1, atI_2, atI_3, atI_4, cut_drop1]
    have hp1 : dp p ≤ dps ps := dps_le.mp (Nat.le_refl _) p hp
    have := dp_pos p
    obtain ⟨m, rfl⟩ : ∃ m, n = m + 1 := ⟨n - 1, by omega⟩
    exact ⟨p, rfl, hps p hp, by omega, hq _ (by rfl)⟩
  · simp only [fMax, List.length_map, dSeq, dRet, dRetN, dNext, dAndV, dOrV, dNotV, dIsi, dVar, dC, dUn, dOp, dCB, dCons, dNil, dTup, dLst, dTest, dAnd, dOr, dNot, dIf, dIfS, dAsg, dPar, dDrop, dAug, dAsgT, dgName, dgNil, dgCons, dgTup, dCall, dCallX, fInT, fIxT, dSl, dPart, dNoPart, dLenV, dIxV, dSlV, dApp, dExt, dPop, dSetIx, ownQ, putO, dYes, dSeqI, dEnum, dRng1, wipeG, startG, List.map_cons, List.map_nil, List.length_cons, List.length_nil, List.replicate, List.cons_append, List.nil_append, List.getElem?_cons_zero, List.getElem?_cons_succ, List.set_cons_zero, List.set_cons_succ, Nat.reduceAdd, Nat.reduceSub, Nat.zero_add, ne_eq, reduceCtorEq, not_false_eq_true, true_and, if_true, if_false, Bool.false_eq_true, decide_eq_true_eq, decide_true, decide_false, Bool.not_true, Bool.not_false, ite_true, ite_false, reduceIte, Option.some.injEq, exists_eq_left', List.drop_succ_cons, List.drop_zero, ↓y_wdv, ↓y_wdo, ↓y_wds0, ↓y_wds1, ↓y_okv, ↓y_oko, ↓y_addi, ↓y_adds, ↓y_addt, ↓y_addl, ↓y_muli, ↓y_mull, ↓y_eqi, ↓y_eqs, ↓y_nei, ↓y_nes, ↓y_eqt, ↓y_eql, ↓y_lti, ↓y_fi, ↓y_fi0, ↓y_isb, ↓y_ixt, ↓y_ixl, ↓y_lent, ↓y_lenl, ↓y_int, ↓y_tupl, ↓y_tupt, ↓y_lstt, ↓y_lstl, ↓y_slt, ↓y_sll, ↓y_repr, ↓y_at0, ↓y_at1, ↓y_at2, ↓y_at3, ↓y_at4, ↓y_st1, ↓y_st2, ↓y_st3, ↓y_st4, ↓y_exd, atI_0, atI_1, atI_2, atI_3, atI_4, cut_drop1]
    refine ⟨small (by omega), (0 :: ps.map fun p => (dp p : Int)), by rw [List.map_cons, List.map_map]; rfl, by simp, fun m hm hmax => ?_⟩
    have e : 1 + m = ((dp (.tuple (.str z :: ps)) : Nat) : Int) := by
      rw [dp_node]
      have m0 : 0 ≤ m := hmax 0 List.mem_cons_self
      have a1 : dps ps ≤ m.toNat := dps_le.mpr fun p hp => by
        have := hmax (dp p : Int) (List.mem_cons_of_mem _ (List.mem_map.mpr ⟨p, hp, rfl⟩))
        omega
      have a2 : m ≤ (dps ps : Int) := by
        rcases List.mem_cons.mp hm with rfl | hm
        · omega
        · obtain ⟨p, hp, rfl⟩ := List.mem_map.mp hm
          have := dps_le.mp (Nat.le_refl (dps ps)) p hp
          omega
      omega
    rw [e]
    exact h
end K00

namespace K00
open PySem PySem.Spec PyProof.Rows L2 LamX DL
def db_ulaw_signs (sp_ulaw_signs : SpP)  : DS := (dRet (dOp fAdd (dOp fIx (dVar 0) (dC (.int 0))) (dJoin (dC (.str "")) (dLc (dSeqI (dSl (dVar 0) (dPart (dC (.int 1))) dNoPart)) (dgName 1) dYes (dCall sp_ulaw_signs (dCons (dVar 1) dNil)) [1]))))
theorem c_ulaw_signs {P : Program} {w : World} {K : PySem.W.Frag} {mg : Str → Option Value} {base : Heap} {T : List (Addr × Str)} {k : Nat} {sp_ulaw_signs : SpP} {sp : SpP} (D : DefAt K mg "_law_signs" s_ulaw_signs ["tree"]) (B : Bi mg builtL) (F_ulaw_signs : Cal P w K mg base CX0 k "_law_signs" (liftP K T sp_ulaw_signs)) (hlen : ∀ as Q R, sp as Q R → as.length = 1) (law : ∀ as Q0 R0, sp as Q0 R0 → db_ulaw_signs sp_ulaw_signs  { nx := fun _ => Q0 (.val .none), rt := fun g _ => g ≠ .unk ∧ Q0 g } (startG 2 as)) :
    Cal P w K mg base CX0 (k + 1) "_law_signs" (liftP K T sp) := by
  have sc := sc_ulaw_signs
  have hj : k ≤ k := by omega
  exact D.mkP sc _ hlen (fun f cdv A outer s H E hr as Q0 R0 h => ⟨_, _, (by exact (ss_one (s_ret (e_bin (k_add K) (k_ix K (e_var 0) (e_int)) (k_join K (e_str) (e_lc rfl sc.nd (k_seq K (k_sl K (e_var 0) (o_some (e_int)) o_none)) (own := [("part", 1)]) (blkOk_by rfl) (tgin_name (by decide)) (fun _ _ _ _ _ => (g_name 1 sc.nd)) (fun _ _ _ _ _ => ts_nil) (fun _ _ _ _ _ => (k_c F_ulaw_signs hr (as_cons (e_var 1) as_nil) hj)))))))), law as Q0 R0 h⟩)
theorem nd_le_nds {p : PyData} : ∀ {ps : List PyData}, p ∈ ps → nd p ≤ nds ps
  | y :: r, h => by
    rw [nds]
    rcases List.mem_cons.mp h with rfl | h
    · omega
    · have := nd_le_nds h; omega
mutual
theorem sg_len : ∀ {d : PyData}, IsTr d → (sg d).length = nd d
  | .tuple (.str z :: ps), h => by
    have h' := h.inv
    obtain ⟨z', ps', e, hr, hps, _⟩ := h'
    cases e
    rw [sg, nd, Str.length_append, rank_len hr, sgs_len hps]
  | .tuple [], h => by cases h
  | .tuple (.none :: _), h => by cases h
  | .tuple (.bool _ :: _), h => by cases h
  | .tuple (.int _ :: _), h => by cases h
  | .tuple (.list _ :: _), h => by cases h
  | .tuple (.tuple _ :: _), h => by cases h
  | .tuple (.dict _ :: _), h => by cases h
  | .none, h => by cases h
  | .bool _, h => by cases h
  | .int _, h => by cases h
  | .str _, h => by cases h
  | .list _, h => by cases h
  | .dict _, h => by cases h
theorem sgs_len : ∀ {ps : List PyData}, (∀ p ∈ ps, IsTr p) → (sgs ps).length = nds ps
  | [], _ => by rw [sgs, nds]; rfl
  | p :: r, h => by rw [sgs, nds, Str.length_append, sg_len (h p List.mem_cons_self), sgs_len fun y hy => h y (List.mem_cons_of_mem _ hy)]
end
theorem cat_sgs : ∀ ps : List PyData, cat (ps.map sg) = sgs ps
  | [] => by rw [sgs]; rfl
  | p :: r => by rw [sgs, ← cat_sgs r]; rfl
theorem l_ulaw_signs (n : Nat) : ∀ as Q0 R0, spSg (n + 1) as Q0 R0 → db_ulaw_signs (spSg n) { nx := fun _ => Q0 (.val .none), rt := fun g _ => g ≠ .unk ∧ Q0 g } (startG 2 as) := by
  rintro _ Q0 R0 ⟨d, rfl, ht, hd, h3, h⟩
  obtain ⟨z, ps, rfl, hr, hps, h4⟩ := ht.inv
  rw [dp_node] at hd
  rw [nd_node] at h3
  simp only [db_ulaw_signs, dJoin, dSeq, dRet, dRetN, dNext, dAndV, dOrV, dNotV, dIsi, dVar, dC, dUn, dOp, dCB, dCons, dNil, dTup, dLst, dTest, dAnd, dOr, dNot, dIf, dIfS, dAsg, dPar, dDrop, dAug, dAsgT, dgName, dgNil, dgCons, dgTup, dCall, dCallX, fInT, fIxT, dSl, dPart, dNoPart, dLenV, dIxV, dSlV, dApp, dExt, dPop, dSetIx, ownQ, putO, dYes, dSeqI, dEnum, dRng1, wipeG, startG, List.map_cons, List.map_nil, List.length_cons, List.length_nil, List.replicate, List.cons_append, List.nil_append, List.getElem?_cons_zero, List.getElem?_cons_succ, List.set_cons_zero, List.set_cons_succ, Nat.reduceAdd, Nat.reduceSub, Nat.zero_add, ne_eq, reduceCtorEq, not_false_eq_true, true_and, if_true, if_false, Bool.false_eq_true, decide_eq_true_eq, decide_true, decide_false, Bool.not_true, Bool.not_false, ite_true, ite_false, reduceIte, Option.some.injEq, exists_eq_left', List.drop_succ_cons, List.drop_zero, ↓y_wdv, ↓y_wdo, ↓y_wds0, ↓y_wds1, ↓y_okv, ↓y_oko, ↓y_addi, ↓y_adds, ↓y_addt, ↓y_addl, ↓y_muli, ↓y_mull, ↓y_eqi, ↓y_eqs, ↓y_nei, ↓y_nes, ↓y_eqt, ↓y_eql, ↓y_lti, ↓y_fi, ↓y_fi0, ↓y_isb, ↓y_ixt, ↓y_ixl, ↓y_lent, ↓y_lenl, ↓y_int, ↓y_tupl, ↓y_tupt, ↓y_lstt, ↓y_lstl, ↓y_slt, ↓y_sll, ↓y_repr, ↓y_at0, ↓y_at1, ↓y_at2, ↓y_at3, ↓y_at4, ↓y_st1, ↓y_st2, ↓y_st3, ↓y_st4, ↓y_exd, atI_0, atI_1, atI_2, atI_3, atI_4, cut_drop1]
  refine ⟨_, rfl, ?_⟩
  refine lc_map (items := ps) (f := fun p => .str (sg p)) (fun Q' hq => ?_) rfl (small (by omega)) (fun p hp Q' hq => ?_) ?_
  · simp only [dSeq, dRet, dRetN, dNext, dAndV, dOrV, dNotV, dIsi, dVar, dC, dUn, dOp, dCB, dCons, dNil, dTup, dLst, dTest, dAnd, dOr, dNot, dIf, dIfS, dAsg, dPar, dDrop, dAug, dAsgT, dgName, dgNil, dgCons, dgTup, dCall, dCallX, fInT, fIxT, dSl, dPart, dNoPart, dLenV, dIxV, dSlV, dApp, dExt, dPop, dSetIx, ownQ, putO, dYes, dSeqI, dEnum, dRng1, wipeG, startG, List.map_cons, List.map_nil, List.length_cons, List.length_nil, List.replicate, List.cons_append, List.nil_append, List.getElem?_cons_zero, List.getElem?_cons_succ, List.set_cons_zero, List.set_cons_succ, Nat.reduceAdd, Nat.reduceSub, Nat.zero_add, ne_eq, reduceCtorEq, not_false_eq_true, true_and, if_true, if_false, Bool.false_eq_true, decide_eq_true_eq, decide_true, decide_false, Bool.not_true, Bool.not_false, ite_true, ite_false, reduceIte, Option.some.injEq, exists_eq_left', List.drop_succ_cons, List.drop_zero, ↓y_wdv, ↓y_wdo, ↓y_wds0, ↓y_wds1, ↓y_okv, ↓y_oko, ↓y_addi, ↓y_adds, ↓y_addt, ↓y_addl, ↓y_muli, ↓y_mull, ↓y_eqi, ↓y_eqs, ↓y_nei, ↓y_nes, ↓y_eqt, ↓y_eql, ↓y_lti, ↓y_fi, ↓y_fi0, ↓y_isb, ↓y_ixt, ↓y_ixl, ↓y_lent, ↓y_lenl, ↓y_int, ↓y_tupl, ↓y_tupt, ↓y_lstt, ↓y_lstl, ↓y_slt, ↓y_sll, ↓y_repr, ↓y_at0, ↓y_at1, ↓y_at2, ↓y_at3, ↓y_at4, ↓y_st1, ↓y_st2, ↓y_st3, ↓y_st4, ↓y_exd, atI_0, atI_1, atI_2, atI_3, atI_4, cut_drop1]
    exact hq
  · simp only [dSeq, dRet, dRetN, dNext, dAndV, dOrV, dNotV, dIsi, dVar, dC, dUn, dOp, dCB, dCons, dNil, dTup, dLst, dTest, dAnd, dOr, dNot, dIf, dIfS, dAsg, dPar, dDrop, dAug, dAsgT, dgName, dgNil, dgCons, dgTup, dCall, dCallX, fInT, fIxT, dSl, dPart, dNoPart, dLenV, dIxV, dSlV, dApp, dExt, dPop, dSetIx, ownQ, putO, dYes, dSeqI, dEnum, dRng1, wipeG, startG, List.map_cons, List.map_nil, List.length_cons, List.length_nil, List.replicate, List.cons_append, List.nil_append, List.getElem?_cons_zero, List.getElem?_cons_succ, List.set_cons_zero, List.set_cons_succ, Nat.reduceAdd, Nat.reduceSub, Nat.zero_add, ne_eq, reduceCtorEq, not_false_eq_true, true_and, if_true, if_false, Bool.false_eq_true, decide_eq_true_eq, decide_true, decide_false, Bool.not_true, Bool.not_false, ite_true, ite_false, reduceIte, Option.some.injEq, exists_eq_left', List.drop_succ_cons, List.drop_zero, ↓y_wdv, ↓y_wdo, ↓y_wds0, ↓y_wds1, ↓y_okv, ↓y_oko, ↓y_addi, ↓y_adds, ↓y_addt, ↓y_addl, ↓y_muli, ↓y_mull, ↓y_eqi, ↓y_eqs, ↓y_nei, ↓y_nes, ↓y_eqt, ↓y_eql, ↓y_lti, ↓y_fi, ↓y_fi0, ↓y_isb, ↓y_ixt, ↓y_ixl, ↓y_lent, ↓y_lenl, ↓y_int, ↓y_tupl, ↓y_tupt, ↓y_lstt, ↓y_lstl, ↓y_slt, ↓y_sll, ↓y_repr, ↓y_at0, ↓y_at1, ↓y_at2, ↓y_at3, ↓y_at4, ↓y_st1, ↓y_st2, ↓y_st3, ↓y_st4, ↓y_exd, atI_0, atI_1, atI_2, atI_3, atI_4, cut_drop1]
    have hp1 : dp p ≤ dps ps := dps_le.mp (Nat.le_refl _) p hp
    have := dp_pos p
    obtain ⟨m, rfl⟩ : ∃ m, n = m + 1 := ⟨n - 1, by omega⟩
    have hn : nd p ≤ nds ps := by
      exact nd_le_nds hp
    exact ⟨p, rfl, hps p hp, by omega, by omega, hq _ (by rfl)⟩
  · refine ⟨ps.map sg, .inl (by rw [List.map_map]; rfl), ?_, ?_⟩
    · have e : ((ps.map sg).map (·.length)).sum = nds ps := by
        rw [List.map_map, nds_eq]
        congr 1
        exact List.map_congr_left fun p hp => sg_len (hps p hp)
      rw [e, show (Str.ofString "").length = 0 from rfl]
      omega
    · simp only [dSeq, dRet, dRetN, dNext, dAndV, dOrV, dNotV, dIsi, dVar, dC, dUn, dOp, dCB, dCons, dNil, dTup, dLst, dTest, dAnd, dOr, dNot, dIf, dIfS, dAsg, dPar, dDrop, dAug, dAsgT, dgName, dgNil, dgCons, dgTup, dCall, dCallX, fInT, fIxT, dSl, dPart, dNoPart, dLenV, dIxV, dSlV, dApp, dExt, dPop, dSetIx, ownQ, putO, dYes, dSeqI, dEnum, dRng1, wipeG, startG, List.map_cons, List.map_nil, List.length_cons, List.length_nil, List.replicate, List.cons_append, List.nil_append, List.getElem?_cons_zero, List.getElem?_cons_succ, List.set_cons_zero, List.set_cons_succ, Nat.reduceAdd, Nat.reduceSub, Nat.zero_add, ne_eq, reduceCtorEq, not_false_eq_true, true_and, if_true, if_false, Bool.false_eq_true, decide_eq_true_eq, decide_true, decide_false, Bool.not_true, Bool.not_false, ite_true, ite_false, reduceIte, Option.some.injEq, exists_eq_left', List.drop_succ_cons, List.drop_zero, ↓y_wdv, ↓y_wdo, ↓y_wds0, ↓y_wds1, ↓y_okv, ↓y_oko, ↓y_addi, ↓y_adds, ↓y_addt, ↓y_addl, ↓y_muli, ↓y_mull, ↓y_eqi, ↓y_eqs, ↓y_nei, ↓y_nes, ↓y_eqt, ↓y_eql, ↓y_lti, ↓y_fi, ↓y_fi0, ↓y_isb, ↓y_ixt, ↓y_ixl, ↓y_lent, ↓y_lenl, ↓y_int, ↓y_tupl, ↓y_tupt, ↓y_lstt, ↓y_lstl, ↓y_slt, ↓y_sll, ↓y_repr, ↓y_at0, ↓y_at1, ↓y_at2, ↓y_at3, ↓y_at4, ↓y_st1, ↓y_st2, ↓y_st3, ↓y_st4, ↓y_exd, atI_0, atI_1, atI_2, atI_3, atI_4, cut_drop1]
      rw [show Txt.join (Str.ofString "") (ps.map sg) = sgs ps from (join_cat _).trans (cat_sgs ps), sgs_len hps, rank_len hr]
      refine ⟨small (by omega), ?_⟩
      rw [← sg_node]
      exact h
end K00

namespace K00
open PySem PySem.Spec PyProof.Rows L2 LamX DL
def db_ulaw_paths (sp_ulaw_paths : SpP)  : DS := (dSeq (dAsg 1 (dLst (dCons (dTup dNil) dNil)))
    (dSeq (dFor (dEnum (dCons (dSl (dVar 0) (dPart (dC (.int 1))) dNoPart) dNil)) (dgTup 2 (dgCons (dgName 2) (dgCons (dgName 3) dgNil)))
    (dDrop (dExt 1 (dLc (dSeqI (dCall sp_ulaw_paths (dCons (dVar 3) dNil))) (dgName 4) dYes (dOp fAdd (dTup (dCons (dVar 2) dNil)) (dVar 4)) [4]))))
    (dRet (dVar 1))))
theorem c_ulaw_paths {P : Program} {w : World} {K : PySem.W.Frag} {mg : Str → Option Value} {base : Heap} {T : List (Addr × Str)} {k : Nat} {sp_ulaw_paths : SpP} {sp : SpP} (D : DefAt K mg "_law_paths" s_ulaw_paths ["tree"]) (B : Bi mg builtL) (F_ulaw_paths : Cal P w K mg base CX0 k "_law_paths" (liftP K T sp_ulaw_paths)) (hlen : ∀ as Q R, sp as Q R → as.length = 1) (law : ∀ as Q0 R0, sp as Q0 R0 → db_ulaw_paths sp_ulaw_paths  { nx := fun _ => Q0 (.val .none), rt := fun g _ => g ≠ .unk ∧ Q0 g } (startG 5 as)) :
    Cal P w K mg base CX0 (k + 1) "_law_paths" (liftP K T sp) := by
  have sc := sc_ulaw_paths
  have hj : k ≤ k := by omega
  exact D.mkP sc _ hlen (fun f cdv A outer s H E hr as Q0 R0 h => ⟨_, _, (by exact (ss_cons (s_set 1 sc.nd (e_lst (as_cons (e_tup as_nil) as_nil)))
    (ss_cons (s_for PassesOwn.never rfl (k_enum K (B "enumerate" (by decide)) (as_cons (k_sl K (e_var 0) (o_some (e_int)) o_none) as_nil)) (k_tup K (gs_cons (g_name 2 sc.nd) (gs_cons (g_name 3 sc.nd) gs_nil))) (ss_one (s_expr (k_ext K 1 (e_lc rfl sc.nd (k_seq K (k_c F_ulaw_paths hr (as_cons (e_var 3) as_nil) hj)) (own := [("path", 4)]) (blkOk_by rfl) (tgin_name (by decide)) (fun _ _ _ _ _ => (g_name 4 sc.nd)) (fun _ _ _ _ _ => ts_nil) (fun _ _ _ _ _ => (e_bin (k_add K) (e_tup (as_cons (e_var 2) as_nil)) (e_var 4))))))))
    (ss_one (s_ret (e_var 1)))))), law as Q0 R0 h⟩)
theorem l_ulaw_paths (n : Nat) : ∀ as Q0 R0, spPaths (n + 1) as Q0 R0 → db_ulaw_paths (spPaths n) { nx := fun _ => Q0 (.val .none), rt := fun g _ => g ≠ .unk ∧ Q0 g } (startG 5 as) := by
  rintro _ Q0 R0 ⟨d, rfl, ht, hd, h3, h⟩
  obtain ⟨z, ps, rfl, hr, hps, h4⟩ := ht.inv
  rw [dp_node] at hd
  rw [nd_node] at h3 h
  rw [dp_node] at h
  have ec : DL.cutD (PyData.str z :: ps) (some 1) none = ps := DL.cut_drop1
  simp only [db_ulaw_paths, dSeq, dRet, dRetN, dNext, dAndV, dOrV, dNotV, dIsi, dVar, dC, dUn, dOp, dCB, dCons, dNil, dTup, dLst, dTest, dAnd, dOr, dNot, dIf, dIfS, dAsg, dPar, dDrop, dAug, dAsgT, dgName, dgNil, dgCons, dgTup, dCall, dCallX, fInT, fIxT, dSl, dPart, dNoPart, dLenV, dIxV, dSlV, dApp, dExt, dPop, dSetIx, ownQ, putO, dYes, dSeqI, dEnum, dRng1, wipeG, startG, List.map_cons, List.map_nil, List.length_cons, List.length_nil, List.replicate, List.cons_append, List.nil_append, List.getElem?_cons_zero, List.getElem?_cons_succ, List.set_cons_zero, List.set_cons_succ, Nat.reduceAdd, Nat.reduceSub, Nat.zero_add, ne_eq, reduceCtorEq, not_false_eq_true, true_and, if_true, if_false, Bool.false_eq_true, decide_eq_true_eq, decide_true, decide_false, Bool.not_true, Bool.not_false, ite_true, ite_false, reduceIte, Option.some.injEq, exists_eq_left', List.drop_succ_cons, List.drop_zero, ↓y_wdv, ↓y_wdo, ↓y_wds0, ↓y_wds1, ↓y_okv, ↓y_oko, ↓y_addi, ↓y_adds, ↓y_addt, ↓y_addl, ↓y_muli, ↓y_mull, ↓y_eqi, ↓y_eqs, ↓y_nei, ↓y_nes, ↓y_eqt, ↓y_eql, ↓y_lti, ↓y_fi, ↓y_fi0, ↓y_isb, ↓y_ixt, ↓y_ixl, ↓y_lent, ↓y_lenl, ↓y_int, ↓y_tupl, ↓y_tupt, ↓y_lstt, ↓y_lstl, ↓y_slt, ↓y_sll, ↓y_repr, ↓y_at0, ↓y_at1, ↓y_at2, ↓y_at3, ↓y_at4, ↓y_st1, ↓y_st2, ↓y_st3, ↓y_st4, ↓y_exd, atI_0, atI_1, atI_2, atI_3, atI_4, cut_drop1]
  refine ⟨small (by omega), small (by omega), ?_⟩
  have hdi : ∀ (g2 g3 : G) (l : List PyData) (Q' : List PyData → Gs → Prop) (R : GX), Q' (enumD 0 ps) [.val (.tuple (.str z :: ps)), .own false l, g2, g3, .unk] → dEnum (dCons (dSl (dVar 0) (dPart (dC (.int 1))) dNoPart) dNil) [.val (.tuple (.str z :: ps)), .own false l, g2, g3, .unk] Q' R := fun g2 g3 l Q' R hq => by
    simp only [dSeq, dRet, dRetN, dNext, dAndV, dOrV, dNotV, dIsi, dVar, dC, dUn, dOp, dCB, dCons, dNil, dTup, dLst, dTest, dAnd, dOr, dNot, dIf, dIfS, dAsg, dPar, dDrop, dAug, dAsgT, dgName, dgNil, dgCons, dgTup, dCall, dCallX, fInT, fIxT, dSl, dPart, dNoPart, dLenV, dIxV, dSlV, dApp, dExt, dPop, dSetIx, ownQ, putO, dYes, dSeqI, dEnum, dRng1, wipeG, startG, List.map_cons, List.map_nil, List.length_cons, List.length_nil, List.replicate, List.cons_append, List.nil_append, List.getElem?_cons_zero, List.getElem?_cons_succ, List.set_cons_zero, List.set_cons_succ, Nat.reduceAdd, Nat.reduceSub, Nat.zero_add, ne_eq, reduceCtorEq, not_false_eq_true, true_and, if_true, if_false, Bool.false_eq_true, decide_eq_true_eq, decide_true, decide_false, Bool.not_true, Bool.not_false, ite_true, ite_false, reduceIte, Option.some.injEq, exists_eq_left', List.drop_succ_cons, List.drop_zero, ↓y_wdv, ↓y_wdo, ↓y_wds0, ↓y_wds1, ↓y_okv, ↓y_oko, ↓y_addi, ↓y_adds, ↓y_addt, ↓y_addl, ↓y_muli, ↓y_mull, ↓y_eqi, ↓y_eqs, ↓y_nei, ↓y_nes, ↓y_eqt, ↓y_eql, ↓y_lti, ↓y_fi, ↓y_fi0, ↓y_isb, ↓y_ixt, ↓y_ixl, ↓y_lent, ↓y_lenl, ↓y_int, ↓y_tupl, ↓y_tupt, ↓y_lstt, ↓y_lstl, ↓y_slt, ↓y_sll, ↓y_repr, ↓y_at0, ↓y_at1, ↓y_at2, ↓y_at3, ↓y_at4, ↓y_st1, ↓y_st2, ↓y_st3, ↓y_st4, ↓y_exd, atI_0, atI_1, atI_2, atI_3, atI_4, cut_drop1]
    exact hq
  refine hdi _ _ _ _ _ ⟨fun i Γ => ∃ (l : List (List Nat)) (g2 g3 : G), Γ = [.val (.tuple (.str z :: ps)), .own false (l.map pathD), g2, g3, .unk] ∧ (∀ p ∈ l, At' (.tuple (.str z :: ps)) p ∧ p.length < 1 + dps ps) ∧ l.length = 1 + nds (ps.take i), ⟨[[]], .unk, .unk, rfl, fun p hp => by cases List.mem_singleton.mp hp; exact ⟨trivial, by simp; omega⟩, by simp [nds]⟩, ?_, ?_⟩
  · rintro i Γ y hi ⟨l, g2, g3, rfl, hl, hn⟩
    have hi' : i < ps.length := by rw [← enumD_len ps 0]; exact (List.getElem?_eq_some_iff.mp hi).1
    have ey : y = .tuple [.int (i : Int), ps[i]] := by
      have : ∀ (qs : List PyData) (k j : Nat) (hj : j < qs.length), (enumD k qs)[j]? = some (.tuple [.int ((k + j : Nat) : Int), qs[j]]) := by
        intro qs
        induction qs with
        | nil => intro k j hj; simp at hj
        | cons q r ih =>
          intro k j hj
          cases j with
          | zero => rfl
          | succ j =>
            have := ih (k + 1) j (by simpa using hj)
            rw [show k + 1 + j = k + (j + 1) by omega] at this
            simpa [enumD] using this
      have := this ps 0 i hi'
      rw [hi] at this
      simpa using this
    subst ey
    have hp : ps[i] ∈ ps := List.getElem_mem hi'
    have hp1 : dp ps[i] ≤ dps ps := dps_le.mp (Nat.le_refl _) _ hp
    have hp2 := nd_le_nds hp
    have hp3 := dp_pos ps[i]
    obtain ⟨m, rfl⟩ : ∃ m, n = m + 1 := ⟨n - 1, by omega⟩
    have htk : nds (ps.take (i + 1)) = nds (ps.take i) + nd ps[i] := by
      rw [nds_eq, nds_eq, List.take_add_one, List.getElem?_eq_getElem hi', List.map_append, List.sum_append]
      simp
    have hle : nds (ps.take (i + 1)) ≤ nds ps := by
      rw [nds_eq, nds_eq]
      conv => rhs; rw [← List.take_append_drop (i + 1) ps]
      rw [List.map_append, List.sum_append]
      omega
    simp only [dSeq, dRet, dRetN, dNext, dAndV, dOrV, dNotV, dIsi, dVar, dC, dUn, dOp, dCB, dCons, dNil, dTup, dLst, dTest, dAnd, dOr, dNot, dIf, dIfS, dAsg, dPar, dDrop, dAug, dAsgT, dgName, dgNil, dgCons, dgTup, dCall, dCallX, fInT, fIxT, dSl, dPart, dNoPart, dLenV, dIxV, dSlV, dApp, dExt, dPop, dSetIx, ownQ, putO, dYes, dSeqI, dEnum, dRng1, wipeG, startG, List.map_cons, List.map_nil, List.length_cons, List.length_nil, List.replicate, List.cons_append, List.nil_append, List.getElem?_cons_zero, List.getElem?_cons_succ, List.set_cons_zero, List.set_cons_succ, Nat.reduceAdd, Nat.reduceSub, Nat.zero_add, ne_eq, reduceCtorEq, not_false_eq_true, true_and, if_true, if_false, Bool.false_eq_true, decide_eq_true_eq, decide_true, decide_false, Bool.not_true, Bool.not_false, ite_true, ite_false, reduceIte, Option.some.injEq, exists_eq_left', List.drop_succ_cons, List.drop_zero, ↓y_wdv, ↓y_wdo, ↓y_wds0, ↓y_wds1, ↓y_okv, ↓y_oko, ↓y_addi, ↓y_adds, ↓y_addt, ↓y_addl, ↓y_muli, ↓y_mull, ↓y_eqi, ↓y_eqs, ↓y_nei, ↓y_nes, ↓y_eqt, ↓y_eql, ↓y_lti, ↓y_fi, ↓y_fi0, ↓y_isb, ↓y_ixt, ↓y_ixl, ↓y_lent, ↓y_lenl, ↓y_int, ↓y_tupl, ↓y_tupt, ↓y_lstt, ↓y_lstl, ↓y_slt, ↓y_sll, ↓y_repr, ↓y_at0, ↓y_at1, ↓y_at2, ↓y_at3, ↓y_at4, ↓y_st1, ↓y_st2, ↓y_st3, ↓y_st4, ↓y_exd, atI_0, atI_1, atI_2, atI_3, atI_4, cut_drop1]
    refine lc_mapP (fun items => ∃ qs : List (List Nat), items = qs.map pathD ∧ (∀ p ∈ qs, At' ps[i] p ∧ p.length < dp ps[i]) ∧ qs.length = nd ps[i]) (fun y => match y with | .tuple l => .tuple (.int (i : Int) :: l) | d => d) (fun Q' hq => ?_) rfl ?_ ?_ ?_
    · simp only [dSeq, dRet, dRetN, dNext, dAndV, dOrV, dNotV, dIsi, dVar, dC, dUn, dOp, dCB, dCons, dNil, dTup, dLst, dTest, dAnd, dOr, dNot, dIf, dIfS, dAsg, dPar, dDrop, dAug, dAsgT, dgName, dgNil, dgCons, dgTup, dCall, dCallX, fInT, fIxT, dSl, dPart, dNoPart, dLenV, dIxV, dSlV, dApp, dExt, dPop, dSetIx, ownQ, putO, dYes, dSeqI, dEnum, dRng1, wipeG, startG, List.map_cons, List.map_nil, List.length_cons, List.length_nil, List.replicate, List.cons_append, List.nil_append, List.getElem?_cons_zero, List.getElem?_cons_succ, List.set_cons_zero, List.set_cons_succ, Nat.reduceAdd, Nat.reduceSub, Nat.zero_add, ne_eq, reduceCtorEq, not_false_eq_true, true_and, if_true, if_false, Bool.false_eq_true, decide_eq_true_eq, decide_true, decide_false, Bool.not_true, Bool.not_false, ite_true, ite_false, reduceIte, Option.some.injEq, exists_eq_left', List.drop_succ_cons, List.drop_zero, ↓y_wdv, ↓y_wdo, ↓y_wds0, ↓y_wds1, ↓y_okv, ↓y_oko, ↓y_addi, ↓y_adds, ↓y_addt, ↓y_addl, ↓y_muli, ↓y_mull, ↓y_eqi, ↓y_eqs, ↓y_nei, ↓y_nes, ↓y_eqt, ↓y_eql, ↓y_lti, ↓y_fi, ↓y_fi0, ↓y_isb, ↓y_ixt, ↓y_ixl, ↓y_lent, ↓y_lenl, ↓y_int, ↓y_tupl, ↓y_tupt, ↓y_lstt, ↓y_lstl, ↓y_slt, ↓y_sll, ↓y_repr, ↓y_at0, ↓y_at1, ↓y_at2, ↓y_at3, ↓y_at4, ↓y_st1, ↓y_st2, ↓y_st3, ↓y_st4, ↓y_exd, atI_0, atI_1, atI_2, atI_3, atI_4, cut_drop1]
      exact ⟨ps[i], rfl, hps _ hp, by omega, by omega, fun qs hqs hlen => hq _ ⟨qs, rfl, hqs, hlen⟩⟩
    · rintro _ ⟨qs, rfl, hqs, hlen⟩
      rw [List.length_map]
      exact small (by omega)
    · rintro _ ⟨qs, rfl, hqs, hlen⟩ y hy Q' hq
      obtain ⟨p, hp', rfl⟩ := List.mem_map.mp hy
      have := (hqs p hp').2
      have := dp_le_nd ps[i]
      simp only [pathD] at hq
      simp only [pathD, dSeq, dRet, dRetN, dNext, dAndV, dOrV, dNotV, dIsi, dVar, dC, dUn, dOp, dCB, dCons, dNil, dTup, dLst, dTest, dAnd, dOr, dNot, dIf, dIfS, dAsg, dPar, dDrop, dAug, dAsgT, dgName, dgNil, dgCons, dgTup, dCall, dCallX, fInT, fIxT, dSl, dPart, dNoPart, dLenV, dIxV, dSlV, dApp, dExt, dPop, dSetIx, ownQ, putO, dYes, dSeqI, dEnum, dRng1, wipeG, startG, List.map_cons, List.map_nil, List.length_cons, List.length_nil, List.replicate, List.cons_append, List.nil_append, List.getElem?_cons_zero, List.getElem?_cons_succ, List.set_cons_zero, List.set_cons_succ, Nat.reduceAdd, Nat.reduceSub, Nat.zero_add, ne_eq, reduceCtorEq, not_false_eq_true, true_and, if_true, if_false, Bool.false_eq_true, decide_eq_true_eq, decide_true, decide_false, Bool.not_true, Bool.not_false, ite_true, ite_false, reduceIte, Option.some.injEq, exists_eq_left', List.drop_succ_cons, List.drop_zero, ↓y_wdv, ↓y_wdo, ↓y_wds0, ↓y_wds1, ↓y_okv, ↓y_oko, ↓y_addi, ↓y_adds, ↓y_addt, ↓y_addl, ↓y_muli, ↓y_mull, ↓y_eqi, ↓y_eqs, ↓y_nei, ↓y_nes, ↓y_eqt, ↓y_eql, ↓y_lti, ↓y_fi, ↓y_fi0, ↓y_isb, ↓y_ixt, ↓y_ixl, ↓y_lent, ↓y_lenl, ↓y_int, ↓y_tupl, ↓y_tupt, ↓y_lstt, ↓y_lstl, ↓y_slt, ↓y_sll, ↓y_repr, ↓y_at0, ↓y_at1, ↓y_at2, ↓y_at3, ↓y_at4, ↓y_st1, ↓y_st2, ↓y_st3, ↓y_st4, ↓y_exd, atI_0, atI_1, atI_2, atI_3, atI_4, cut_drop1]
      refine ⟨small (by omega), by rw [List.length_map]; exact small (by omega), ?_⟩
      exact hq _ (by rfl)
    · rintro _ ⟨qs, rfl, hqs, hlen⟩
      simp only [List.length_map, dSeq, dRet, dRetN, dNext, dAndV, dOrV, dNotV, dIsi, dVar, dC, dUn, dOp, dCB, dCons, dNil, dTup, dLst, dTest, dAnd, dOr, dNot, dIf, dIfS, dAsg, dPar, dDrop, dAug, dAsgT, dgName, dgNil, dgCons, dgTup, dCall, dCallX, fInT, fIxT, dSl, dPart, dNoPart, dLenV, dIxV, dSlV, dApp, dExt, dPop, dSetIx, ownQ, putO, dYes, dSeqI, dEnum, dRng1, wipeG, startG, List.map_cons, List.map_nil, List.length_cons, List.length_nil, List.replicate, List.cons_append, List.nil_append, List.getElem?_cons_zero, List.getElem?_cons_succ, List.set_cons_zero, List.set_cons_succ, Nat.reduceAdd, Nat.reduceSub, Nat.zero_add, ne_eq, reduceCtorEq, not_false_eq_true, true_and, if_true, if_false, Bool.false_eq_true, decide_eq_true_eq, decide_true, decide_false, Bool.not_true, Bool.not_false, ite_true, ite_false, reduceIte, Option.some.injEq, exists_eq_left', List.drop_succ_cons, List.drop_zero, ↓y_wdv, ↓y_wdo, ↓y_wds0, ↓y_wds1, ↓y_okv, ↓y_oko, ↓y_addi, ↓y_adds, ↓y_addt, ↓y_addl, ↓y_muli, ↓y_mull, ↓y_eqi, ↓y_eqs, ↓y_nei, ↓y_nes, ↓y_eqt, ↓y_eql, ↓y_lti, ↓y_fi, ↓y_fi0, ↓y_isb, ↓y_ixt, ↓y_ixl, ↓y_lent, ↓y_lenl, ↓y_int, ↓y_tupl, ↓y_tupt, ↓y_lstt, ↓y_lstl, ↓y_slt, ↓y_sll, ↓y_repr, ↓y_at0, ↓y_at1, ↓y_at2, ↓y_at3, ↓y_at4, ↓y_st1, ↓y_st2, ↓y_st3, ↓y_st4, ↓y_exd, atI_0, atI_1, atI_2, atI_3, atI_4, cut_drop1]
      refine ⟨small (by omega), l ++ qs.map fun p => i :: p, .val (.int (i : Int)), .val ps[i], ?_, ?_, ?_⟩
      · rw [List.map_append, List.map_map, List.map_map]
        rfl
      · intro p hp'
        rcases List.mem_append.mp hp' with hp' | hp'
        · exact hl p hp'
        · obtain ⟨p, hp2, rfl⟩ := List.mem_map.mp hp'
          obtain ⟨a, b⟩ := hqs p hp2
          exact ⟨⟨ps[i], List.getElem?_eq_getElem hi', a⟩, by simp; omega⟩
      · rw [List.length_append, List.length_map, hn, hlen, htk]
        omega
  · rintro Γ ⟨l, g2, g3, rfl, hl, hn⟩
    rw [enumD_len, List.take_length] at hn
    simp only [dSeq, dRet, dRetN, dNext, dAndV, dOrV, dNotV, dIsi, dVar, dC, dUn, dOp, dCB, dCons, dNil, dTup, dLst, dTest, dAnd, dOr, dNot, dIf, dIfS, dAsg, dPar, dDrop, dAug, dAsgT, dgName, dgNil, dgCons, dgTup, dCall, dCallX, fInT, fIxT, dSl, dPart, dNoPart, dLenV, dIxV, dSlV, dApp, dExt, dPop, dSetIx, ownQ, putO, dYes, dSeqI, dEnum, dRng1, wipeG, startG, List.map_cons, List.map_nil, List.length_cons, List.length_nil, List.replicate, List.cons_append, List.nil_append, List.getElem?_cons_zero, List.getElem?_cons_succ, List.set_cons_zero, List.set_cons_succ, Nat.reduceAdd, Nat.reduceSub, Nat.zero_add, ne_eq, reduceCtorEq, not_false_eq_true, true_and, if_true, if_false, Bool.false_eq_true, decide_eq_true_eq, decide_true, decide_false, Bool.not_true, Bool.not_false, ite_true, ite_false, reduceIte, Option.some.injEq, exists_eq_left', List.drop_succ_cons, List.drop_zero, ↓y_wdv, ↓y_wdo, ↓y_wds0, ↓y_wds1, ↓y_okv, ↓y_oko, ↓y_addi, ↓y_adds, ↓y_addt, ↓y_addl, ↓y_muli, ↓y_mull, ↓y_eqi, ↓y_eqs, ↓y_nei, ↓y_nes, ↓y_eqt, ↓y_eql, ↓y_lti, ↓y_fi, ↓y_fi0, ↓y_isb, ↓y_ixt, ↓y_ixl, ↓y_lent, ↓y_lenl, ↓y_int, ↓y_tupl, ↓y_tupt, ↓y_lstt, ↓y_lstl, ↓y_slt, ↓y_sll, ↓y_repr, ↓y_at0, ↓y_at1, ↓y_at2, ↓y_at3, ↓y_at4, ↓y_st1, ↓y_st2, ↓y_st3, ↓y_st4, ↓y_exd, atI_0, atI_1, atI_2, atI_3, atI_4, cut_drop1]
    exact h l hl hn
end K00

namespace K00
open PySem PySem.Spec PyProof.Rows L2 LamX DL
def db_ulaw_put (sp_ulaw_put : SpP)  : DS := (dSeq (dIfS (dTest (dOp fEq (dVar 1) (dTup dNil)))
    (dRet (dVar 2))
    dNext)
    (dSeq (dAsg 3 (dOp fAdd (dOp fIx (dVar 1) (dC (.int 0))) (dC (.int 1))))
    (dRet (dOp fAdd (dOp fAdd (dSl (dVar 0) dNoPart (dPart (dVar 3))) (dTup (dCons (dCall sp_ulaw_put (dCons (dOp fIx (dVar 0) (dVar 3)) (dCons (dSl (dVar 1) (dPart (dC (.int 1))) dNoPart) (dCons (dVar 2) dNil)))) dNil))) (dSl (dVar 0) (dPart (dOp fAdd (dVar 3) (dC (.int 1)))) dNoPart)))))
theorem c_ulaw_put {P : Program} {w : World} {K : PySem.W.Frag} {mg : Str → Option Value} {base : Heap} {T : List (Addr × Str)} {k : Nat} {sp_ulaw_put : SpP} {sp : SpP} (D : DefAt K mg "_law_put" s_ulaw_put ["tree", "path", "other"]) (B : Bi mg builtL) (F_ulaw_put : Cal P w K mg base CX0 k "_law_put" (liftP K T sp_ulaw_put)) (hlen : ∀ as Q R, sp as Q R → as.length = 3) (law : ∀ as Q0 R0, sp as Q0 R0 → db_ulaw_put sp_ulaw_put  { nx := fun _ => Q0 (.val .none), rt := fun g _ => g ≠ .unk ∧ Q0 g } (startG 4 as)) :
    Cal P w K mg base CX0 (k + 1) "_law_put" (liftP K T sp) := by
  have sc := sc_ulaw_put
  have hj : k ≤ k := by omega
  exact D.mkP sc _ hlen (fun f cdv A outer s H E hr as Q0 R0 h => ⟨_, _, (by exact (ss_cons (s_if (t_cmp (k_eq K hr.units) (e_var 1) (e_tup as_nil)) (ss_one (s_ret (e_var 2))) ss_nil)
    (ss_cons (s_set 3 sc.nd (e_bin (k_add K) (k_ix K (e_var 1) (e_int)) (e_int)))
    (ss_one (s_ret (e_bin (k_add K) (e_bin (k_add K) (k_sl K (e_var 0) o_none (o_some (e_var 3))) (e_tup (as_cons (k_c F_ulaw_put hr (as_cons (k_ix K (e_var 0) (e_var 3)) (as_cons (k_sl K (e_var 1) (o_some (e_int)) o_none) (as_cons (e_var 2) as_nil))) hj) as_nil))) (k_sl K (e_var 0) (o_some (e_bin (k_add K) (e_var 3) (e_int))) o_none))))))), law as Q0 R0 h⟩)
theorem path_shaped (p : List Nat) : SeqAt.shaped (pathD p) = true := by
  have h1 : ∀ l : List Nat, PyData.canLayAll0 (l.map fun (k : Nat) => PyData.int (k : Int)) = true := fun l => by
    induction l with
    | nil => rfl
    | cons k r ih => simp only [List.map_cons, PyData.canLayAll0, PyData.canLay0, ih, Bool.and_true]
  have h2 : ∀ l : List Nat, PyData.depthAll (l.map fun (k : Nat) => PyData.int (k : Int)) = 0 := fun l => by
    induction l with
    | nil => rfl
    | cons k r ih => simp only [List.map_cons, PyData.depthAll, PyData.depth, ih]; rfl
  unfold SeqAt.shaped pathD
  rw [PyData.canLay0, PyData.depth, h1, h2]
  rfl
theorem path_eqv : ∀ p : List Nat, PyData.eqv (pathD p) (.tuple []) = decide (p = [])
  | [] => by rw [pathD, PyData.eqv]; rfl
  | k :: r => by rw [pathD, PyData.eqv, List.map_cons, PyData.eqvAll]; rfl
theorem l_ulaw_put (n : Nat) : ∀ as Q0 R0, spPut (n + 1) as Q0 R0 → db_ulaw_put (spPut n) { nx := fun _ => Q0 (.val .none), rt := fun g _ => g ≠ .unk ∧ Q0 g } (startG 4 as) := by
  rintro _ Q0 R0 ⟨d, p, o, rfl, ht, hat, hp, h⟩
  have e0 : SeqAt.shaped (.tuple []) = true := by rfl
  have ep : PyData.tuple (p.map fun (k : Nat) => PyData.int (k : Int)) = pathD p := rfl
  unfold db_ulaw_put
  refine seq_ifP (fun Γ => Γ = startG 4 [d, pathD p, o] ∧ p ≠ []) (decide (p = [])) (fun Q hq => ?_) (fun hc K hK => ?_) (fun hc => ⟨rfl, of_decide_eq_false hc⟩) ?_
  · simp only [pathD, dSeq, dRet, dRetN, dNext, dAndV, dOrV, dNotV, dIsi, dVar, dC, dUn, dOp, dCB, dCons, dNil, dTup, dLst, dTest, dAnd, dOr, dNot, dIf, dIfS, dAsg, dPar, dDrop, dAug, dAsgT, dgName, dgNil, dgCons, dgTup, dCall, dCallX, fInT, fIxT, dSl, dPart, dNoPart, dLenV, dIxV, dSlV, dApp, dExt, dPop, dSetIx, ownQ, putO, dYes, dSeqI, dEnum, dRng1, wipeG, startG, List.map_cons, List.map_nil, List.length_cons, List.length_nil, List.replicate, List.cons_append, List.nil_append, List.getElem?_cons_zero, List.getElem?_cons_succ, List.set_cons_zero, List.set_cons_succ, Nat.reduceAdd, Nat.reduceSub, Nat.zero_add, ne_eq, reduceCtorEq, not_false_eq_true, true_and, if_true, if_false, Bool.false_eq_true, decide_eq_true_eq, decide_true, decide_false, Bool.not_true, Bool.not_false, ite_true, ite_false, reduceIte, Option.some.injEq, exists_eq_left', List.drop_succ_cons, List.drop_zero, ↓y_wdv, ↓y_wdo, ↓y_wds0, ↓y_wds1, ↓y_okv, ↓y_oko, ↓y_addi, ↓y_adds, ↓y_addt, ↓y_addl, ↓y_muli, ↓y_mull, ↓y_eqi, ↓y_eqs, ↓y_nei, ↓y_nes, ↓y_eqt, ↓y_eql, ↓y_lti, ↓y_fi, ↓y_fi0, ↓y_isb, ↓y_ixt, ↓y_ixl, ↓y_lent, ↓y_lenl, ↓y_int, ↓y_tupl, ↓y_tupt, ↓y_lstt, ↓y_lstl, ↓y_slt, ↓y_sll, ↓y_repr, ↓y_at0, ↓y_at1, ↓y_at2, ↓y_at3, ↓y_at4, ↓y_st1, ↓y_st2, ↓y_st3, ↓y_st4, ↓y_exd, atI_0, atI_1, atI_2, atI_3, atI_4, cut_drop1]
    refine ⟨small (by simp), ?_⟩
    rw [ep, path_eqv]
    exact ⟨path_shaped p, e0, hq⟩
  · simp only [dSeq, dRet, dRetN, dNext, dAndV, dOrV, dNotV, dIsi, dVar, dC, dUn, dOp, dCB, dCons, dNil, dTup, dLst, dTest, dAnd, dOr, dNot, dIf, dIfS, dAsg, dPar, dDrop, dAug, dAsgT, dgName, dgNil, dgCons, dgTup, dCall, dCallX, fInT, fIxT, dSl, dPart, dNoPart, dLenV, dIxV, dSlV, dApp, dExt, dPop, dSetIx, ownQ, putO, dYes, dSeqI, dEnum, dRng1, wipeG, startG, List.map_cons, List.map_nil, List.length_cons, List.length_nil, List.replicate, List.cons_append, List.nil_append, List.getElem?_cons_zero, List.getElem?_cons_succ, List.set_cons_zero, List.set_cons_succ, Nat.reduceAdd, Nat.reduceSub, Nat.zero_add, ne_eq, reduceCtorEq, not_false_eq_true, true_and, if_true, if_false, Bool.false_eq_true, decide_eq_true_eq, decide_true, decide_false, Bool.not_true, Bool.not_false, ite_true, ite_false, reduceIte, Option.some.injEq, exists_eq_left', List.drop_succ_cons, List.drop_zero, ↓y_wdv, ↓y_wdo, ↓y_wds0, ↓y_wds1, ↓y_okv, ↓y_oko, ↓y_addi, ↓y_adds, ↓y_addt, ↓y_addl, ↓y_muli, ↓y_mull, ↓y_eqi, ↓y_eqs, ↓y_nei, ↓y_nes, ↓y_eqt, ↓y_eql, ↓y_lti, ↓y_fi, ↓y_fi0, ↓y_isb, ↓y_ixt, ↓y_ixl, ↓y_lent, ↓y_lenl, ↓y_int, ↓y_tupl, ↓y_tupt, ↓y_lstt, ↓y_lstl, ↓y_slt, ↓y_sll, ↓y_repr, ↓y_at0, ↓y_at1, ↓y_at2, ↓y_at3, ↓y_at4, ↓y_st1, ↓y_st2, ↓y_st3, ↓y_st4, ↓y_exd, atI_0, atI_1, atI_2, atI_3, atI_4, cut_drop1]
    exact h o fun z => z
  · rintro Γ ⟨rfl, hne⟩
    obtain ⟨k, r, rfl⟩ : ∃ k r, p = k :: r := by
      cases p with
      | nil => exact absurd rfl hne
      | cons k r => exact ⟨k, r, rfl⟩
    obtain ⟨z, ps, rfl, hr, hps, h4⟩ := ht.inv
    obtain ⟨e, he, hat'⟩ := hat
    have he : ps[k]? = some e := he
    have hk : k < ps.length := (List.getElem?_eq_some_iff.mp he).1
    simp only [List.length_cons] at hp
    obtain ⟨m, rfl⟩ : ∃ m, n = m + 1 := ⟨n - 1, by omega⟩
    have c1 : DL.cutD (PyData.str z :: ps) none (some ((k : Int) + 1)) = PyData.str z :: ps.take k := DL.cut_take (k := k + 1)
    have c2 : DL.cutD (PyData.str z :: ps) (some ((k : Int) + 1 + 1)) none = ps.drop (k + 1) := DL.cut_drop (k := k + 1 + 1)
    have hix : ∀ Q : G → Prop, fIx (.tuple (PyData.str z :: ps)) (.int ((k : Int) + 1)) Q = Q (.val e) := fun Q => by
      rw [y_ixt, show atI (PyData.str z :: ps) ((k : Int) + 1) = some e from (DL.atI_nat (k := k + 1)).trans (by simpa using he)]
      exact y_exd
    simp only [pathD, List.map_cons, ↓hix, c1, c2, dSeq, dRet, dRetN, dNext, dAndV, dOrV, dNotV, dIsi, dVar, dC, dUn, dOp, dCB, dCons, dNil, dTup, dLst, dTest, dAnd, dOr, dNot, dIf, dIfS, dAsg, dPar, dDrop, dAug, dAsgT, dgName, dgNil, dgCons, dgTup, dCall, dCallX, fInT, fIxT, dSl, dPart, dNoPart, dLenV, dIxV, dSlV, dApp, dExt, dPop, dSetIx, ownQ, putO, dYes, dSeqI, dEnum, dRng1, wipeG, startG, List.map_cons, List.map_nil, List.length_cons, List.length_nil, List.replicate, List.cons_append, List.nil_append, List.getElem?_cons_zero, List.getElem?_cons_succ, List.set_cons_zero, List.set_cons_succ, Nat.reduceAdd, Nat.reduceSub, Nat.zero_add, ne_eq, reduceCtorEq, not_false_eq_true, true_and, if_true, if_false, Bool.false_eq_true, decide_eq_true_eq, decide_true, decide_false, Bool.not_true, Bool.not_false, ite_true, ite_false, reduceIte, Option.some.injEq, exists_eq_left', List.drop_succ_cons, List.drop_zero, ↓y_wdv, ↓y_wdo, ↓y_wds0, ↓y_wds1, ↓y_okv, ↓y_oko, ↓y_addi, ↓y_adds, ↓y_addt, ↓y_addl, ↓y_muli, ↓y_mull, ↓y_eqi, ↓y_eqs, ↓y_nei, ↓y_nes, ↓y_eqt, ↓y_eql, ↓y_lti, ↓y_fi, ↓y_fi0, ↓y_isb, ↓y_ixt, ↓y_ixl, ↓y_lent, ↓y_lenl, ↓y_int, ↓y_tupl, ↓y_tupt, ↓y_lstt, ↓y_lstl, ↓y_slt, ↓y_sll, ↓y_repr, ↓y_at0, ↓y_at1, ↓y_at2, ↓y_at3, ↓y_at4, ↓y_st1, ↓y_st2, ↓y_st3, ↓y_st4, ↓y_exd, atI_0, atI_1, atI_2, atI_3, atI_4, cut_drop1]
    refine ⟨e, r, o, rfl, hps e (List.mem_of_getElem? he), hat', by omega, fun x hx => ?_⟩
    simp only [dSeq, dRet, dRetN, dNext, dAndV, dOrV, dNotV, dIsi, dVar, dC, dUn, dOp, dCB, dCons, dNil, dTup, dLst, dTest, dAnd, dOr, dNot, dIf, dIfS, dAsg, dPar, dDrop, dAug, dAsgT, dgName, dgNil, dgCons, dgTup, dCall, dCallX, fInT, fIxT, dSl, dPart, dNoPart, dLenV, dIxV, dSlV, dApp, dExt, dPop, dSetIx, ownQ, putO, dYes, dSeqI, dEnum, dRng1, wipeG, startG, List.map_cons, List.map_nil, List.length_cons, List.length_nil, List.replicate, List.cons_append, List.nil_append, List.getElem?_cons_zero, List.getElem?_cons_succ, List.set_cons_zero, List.set_cons_succ, Nat.reduceAdd, Nat.reduceSub, Nat.zero_add, ne_eq, reduceCtorEq, not_false_eq_true, true_and, if_true, if_false, Bool.false_eq_true, decide_eq_true_eq, decide_true, decide_false, Bool.not_true, Bool.not_false, ite_true, ite_false, reduceIte, Option.some.injEq, exists_eq_left', List.drop_succ_cons, List.drop_zero, ↓y_wdv, ↓y_wdo, ↓y_wds0, ↓y_wds1, ↓y_okv, ↓y_oko, ↓y_addi, ↓y_adds, ↓y_addt, ↓y_addl, ↓y_muli, ↓y_mull, ↓y_eqi, ↓y_eqs, ↓y_nei, ↓y_nes, ↓y_eqt, ↓y_eql, ↓y_lti, ↓y_fi, ↓y_fi0, ↓y_isb, ↓y_ixt, ↓y_ixl, ↓y_lent, ↓y_lenl, ↓y_int, ↓y_tupl, ↓y_tupt, ↓y_lstt, ↓y_lstl, ↓y_slt, ↓y_sll, ↓y_repr, ↓y_at0, ↓y_at1, ↓y_at2, ↓y_at3, ↓y_at4, ↓y_st1, ↓y_st2, ↓y_st3, ↓y_st4, ↓y_exd, atI_0, atI_1, atI_2, atI_3, atI_4, cut_drop1]
    refine ⟨small (by simp), small (by simp; omega), small (by simp; omega), ?_⟩
    refine h _ fun hT => hx ?_
    have : IsTr (.tuple (.str z :: (ps.take k ++ [x] ++ ps.drop (k + 1)))) := hT
    obtain ⟨z', ps', e2, _, hall, _⟩ := this.inv
    cases e2
    exact hall x (by simp)
end K00

namespace K00
open PySem PySem.Spec PyProof.Rows L2 LamX DL
def db_ulaw_no_tree (sp_ulaw_put : SpP) (sp_ulaw_some : SpH) (sp_ulaw_paths : SpP) (sp_ulaw_chain : SpH) (sp_ulaw_wide : SpH)  : DS := (dSeq (dAsg 2 (dLst (dCons (dC .none) (dCons (dTup dNil) (dCons (dC (.str "a")) (dCons (dTup (dCons (dC (.str "a")) (dCons (dTup (dCons (dC (.str "b")) dNil)) dNil))) (dCons (dTup (dCons (dC (.str "f")) (dCons (dTup (dCons (dC (.str "a")) dNil)) dNil))) (dCons (dTup (dCons (dC (.str "s")) dNil)) (dCons (dLst (dCons (dC (.str "a")) dNil)) (dCons (dTup (dCons (dC (.str "z")) dNil)) (dCons (dTup (dCons (dC (.str "A")) dNil)) (dCons (dTup (dCons (dC (.int 0)) dNil)) (dCons (dC (.int 0)) (dCons (dTup (dCons (dC (.str "?")) dNil)) (dCons (dTup (dCons (dC (.str "ab")) dNil)) dNil)))))))))))))))
    (dSeq (dAsg 2 (dOp fAdd (dVar 2) (dLst (dCons (dTup (dCons (dC (.str "h")) (dCons (dTup (dCons (dC (.str "a")) dNil)) (dCons (dTup (dCons (dC (.str "a")) dNil)) dNil)))) (dCons (dTup (dCons (dC (.str "f")) (dCons (dTup (dCons (dC (.str "a")) dNil)) (dCons (dTup (dCons (dC (.str "a")) dNil)) (dCons (dTup (dCons (dC (.str "a")) dNil)) dNil))))) (dCons (dTup (dCons (dC (.str "")) dNil)) (dCons (dTup (dCons (dC (.str "s")) (dCons (dC .none) dNil))) (dCons (dTup (dCons (dTup (dCons (dC (.str "a")) dNil)) dNil)) (dCons (dTup (dCons (dC (.str "a")) (dCons (dTup dNil) dNil))) dNil)))))))))
    (dSeq (dAsg 3 (dCall sp_ulaw_put (dCons (dVar 1) (dCons (dCallH sp_ulaw_some 0 (dCons (dCall sp_ulaw_paths (dCons (dVar 1) dNil)) dNil)) (dCons (dCallH sp_ulaw_some 0 (dCons (dVar 2) dNil)) dNil)))))
    (dRet (dCallH sp_ulaw_some 0 (dCons (dLst (dCons (dVar 3) (dCons (dVar 3) (dCons (dVar 3) (dCons (dCB fList (dCons (dVar 1) dNil)) (dCons (dCallH sp_ulaw_wide 0 (dCons (dC (.int 301)) dNil)) (dCons (dCallH sp_ulaw_chain 0 (dCons (dC (.int 41)) dNil)) (dCons (dLst (dCons (dVar 1) dNil)) dNil)))))))) dNil))))))
theorem c_ulaw_no_tree {P : Program} {w : World} {K : PySem.W.Frag} {mg : Str → Option Value} {base : Heap} {T : List (Addr × Str)} {k : Nat} {sp_ulaw_put : SpP} {sp_ulaw_some : SpH} {sp_ulaw_paths : SpP} {sp_ulaw_chain : SpH} {sp_ulaw_wide : SpH} {sp : SpH} (D : DefAt K mg "_law_no_tree" s_ulaw_no_tree ["hand", "tree"]) (B : Bi mg builtL) (F_ulaw_put : Cal P w K mg base CX0 k "_law_put" (liftP K T sp_ulaw_put)) (F_ulaw_some : Cal P w K mg base CX0 k "_law_some" (liftH K T sp_ulaw_some)) (F_ulaw_paths : Cal P w K mg base CX0 k "_law_paths" (liftP K T sp_ulaw_paths)) (F_ulaw_chain : Cal P w K mg base CX0 k "_law_chain" (liftH K T sp_ulaw_chain)) (F_ulaw_wide : Cal P w K mg base CX0 k "_law_wide" (liftH K T sp_ulaw_wide)) (hlen : ∀ hd as Q R, sp hd as Q R → as.length + 1 = 2) (law : ∀ hd as Q0 R0, sp hd as Q0 R0 → db_ulaw_no_tree sp_ulaw_put sp_ulaw_some sp_ulaw_paths sp_ulaw_chain sp_ulaw_wide  { nx := fun Γ => ownQ Γ 0 fun hd' => Γ[0]? = some (.own true hd') ∧ Q0 (.val .none) hd', rt := fun g Γ => g ≠ .unk ∧ ownQ Γ 0 fun hd' => Γ[0]? = some (.own true hd') ∧ Q0 g hd' } (.own true hd :: startG 3 as)) :
    Cal P w K mg base CX0 (k + 1) "_law_no_tree" (liftH K T sp) := by
  have sc := sc_ulaw_no_tree
  have hj : k ≤ k := by omega
  exact D.mkH sc _ hlen (fun f cdv A outer s H E hr hd as Q0 R0 h => ⟨_, _, (by exact (ss_cons (s_set 2 sc.nd (e_lst (as_cons (e_non) (as_cons (e_tup as_nil) (as_cons (e_str) (as_cons (e_tup (as_cons (e_str) (as_cons (e_tup (as_cons (e_str) as_nil)) as_nil))) (as_cons (e_tup (as_cons (e_str) (as_cons (e_tup (as_cons (e_str) as_nil)) as_nil))) (as_cons (e_tup (as_cons (e_str) as_nil)) (as_cons (e_lst (as_cons (e_str) as_nil)) (as_cons (e_tup (as_cons (e_str) as_nil)) (as_cons (e_tup (as_cons (e_str) as_nil)) (as_cons (e_tup (as_cons (e_int) as_nil)) (as_cons (e_int) (as_cons (e_tup (as_cons (e_str) as_nil)) (as_cons (e_tup (as_cons (e_str) as_nil)) as_nil)))))))))))))))
    (ss_cons (s_set 2 sc.nd (e_bin (k_add K) (e_var 2) (e_lst (as_cons (e_tup (as_cons (e_str) (as_cons (e_tup (as_cons (e_str) as_nil)) (as_cons (e_tup (as_cons (e_str) as_nil)) as_nil)))) (as_cons (e_tup (as_cons (e_str) (as_cons (e_tup (as_cons (e_str) as_nil)) (as_cons (e_tup (as_cons (e_str) as_nil)) (as_cons (e_tup (as_cons (e_str) as_nil)) as_nil))))) (as_cons (e_tup (as_cons (e_str) as_nil)) (as_cons (e_tup (as_cons (e_str) (as_cons (e_non) as_nil))) (as_cons (e_tup (as_cons (e_tup (as_cons (e_str) as_nil)) as_nil)) (as_cons (e_tup (as_cons (e_str) (as_cons (e_tup as_nil) as_nil))) as_nil)))))))))
    (ss_cons (s_set 3 sc.nd (k_c F_ulaw_put hr (as_cons (e_var 1) (as_cons (k_cH 0 F_ulaw_some hr (as_cons (k_c F_ulaw_paths hr (as_cons (e_var 1) as_nil) hj) as_nil) hj) (as_cons (k_cH 0 F_ulaw_some hr (as_cons (e_var 2) as_nil) hj) as_nil))) hj))
    (ss_one (s_ret (k_cH 0 F_ulaw_some hr (as_cons (e_lst (as_cons (e_var 3) (as_cons (e_var 3) (as_cons (e_var 3) (as_cons (k_ct (q_list K) PyProof.Rows.boot_list (B "list" (by decide)) (as_cons (e_var 1) as_nil)) (as_cons (k_cH 0 F_ulaw_wide hr (as_cons (e_int) as_nil) hj) (as_cons (k_cH 0 F_ulaw_chain hr (as_cons (e_int) as_nil) hj) (as_cons (e_lst (as_cons (e_var 1) as_nil)) as_nil)))))))) as_nil) hj))))))), law hd as Q0 R0 h⟩)
def wrongL : List PyData := [.none, .tuple [], .str "a", .tuple [.str "a", .tuple [.str "b"]], .tuple [.str "f", .tuple [.str "a"]], .tuple [.str "s"], .list [.str "a"], .tuple [.str "z"], .tuple [.str "A"], .tuple [.int 0], .int 0, .tuple [.str "?"], .tuple [.str "ab"],
  .tuple [.str "h", .tuple [.str "a"], .tuple [.str "a"]], .tuple [.str "f", .tuple [.str "a"], .tuple [.str "a"], .tuple [.str "a"]], .tuple [.str ""], .tuple [.str "s", .none], .tuple [.tuple [.str "a"]], .tuple [.str "a", .tuple []]]
theorem wrong_not : ∀ w ∈ wrongL, ¬ IsTr w := by
  intro w hw ht
  have key : (wrongL.all fun w => !isTree w && (decide (dp w ≤ 40) && decide (nd w ≤ 300))) = true := by decide +kernel
  have := List.all_eq_true.mp key w hw
  simp only [Bool.and_eq_true, Bool.not_eq_true', decide_eq_true_eq] at this
  rw [isTree_iff.mpr ⟨ht, this.2.1, this.2.2⟩] at this
  exact absurd this.1 (by simp)
theorem l_ulaw_no_tree  : ∀ hd as Q0 R0, spNo hd as Q0 R0 → db_ulaw_no_tree (spPut 6) spSome (spPaths 5) spChain (spWide 18) { nx := fun Γ => ownQ Γ 0 fun hd' => Γ[0]? = some (.own true hd') ∧ Q0 (.val .none) hd', rt := fun g Γ => g ≠ .unk ∧ ownQ Γ 0 fun hd' => Γ[0]? = some (.own true hd') ∧ Q0 g hd' } (.own true hd :: startG 3 as) := by
  rintro hd _ Q0 R0 ⟨d, rfl, ht, hdp, hnd, hh, h⟩
  have hsome : ∀ (l : List PyData) (hd : List PyData) (Q : G → List PyData → Prop), HandOk hd → 0 < l.length → l.length < 1073741824 → (∀ d hd', d ∈ l → HandOk hd' → Q (.val d) hd') → ∀ R, spSome hd [.list l] Q R := fun l hd Q a b c d R => ⟨l, rfl, b, c, a, d⟩
  have seqP : ∀ {a rest : DS} {D : DEnd} {Γ : Gs} (P : Gs → Prop), (∀ K : Gs → Prop, (∀ Γ', P Γ' → K Γ') → a { D with nx := K } Γ) → (∀ Γ', P Γ' → rest D Γ') → dSeq a rest D Γ := fun P h1 h2 => h1 _ h2
  obtain ⟨z, ps, rfl, hr, hps, h4⟩ := ht.inv
  unfold db_ulaw_no_tree
  refine seqP (fun Γ => Γ = [.own true hd, .val (.tuple (.str z :: ps)), .own false (wrongL.take 13), .unk]) (fun K hK => ?_) ?_
  · simp only [dSeq, dRet, dRetN, dNext, dAndV, dOrV, dNotV, dIsi, dVar, dC, dUn, dOp, dCB, dCons, dNil, dTup, dLst, dTest, dAnd, dOr, dNot, dIf, dIfS, dAsg, dPar, dDrop, dAug, dAsgT, dgName, dgNil, dgCons, dgTup, dCall, dCallX, fInT, fIxT, dSl, dPart, dNoPart, dLenV, dIxV, dSlV, dApp, dExt, dPop, dSetIx, ownQ, putO, dYes, dSeqI, dEnum, dRng1, wipeG, startG, List.map_cons, List.map_nil, List.length_cons, List.length_nil, List.replicate, List.cons_append, List.nil_append, List.getElem?_cons_zero, List.getElem?_cons_succ, List.set_cons_zero, List.set_cons_succ, Nat.reduceAdd, Nat.reduceSub, Nat.zero_add, ne_eq, reduceCtorEq, not_false_eq_true, true_and, if_true, if_false, Bool.false_eq_true, decide_eq_true_eq, decide_true, decide_false, Bool.not_true, Bool.not_false, ite_true, ite_false, reduceIte, Option.some.injEq, exists_eq_left', List.drop_succ_cons, List.drop_zero, ↓y_wdv, ↓y_wdo, ↓y_wds0, ↓y_wds1, ↓y_okv, ↓y_oko, ↓y_addi, ↓y_adds, ↓y_addt, ↓y_addl, ↓y_muli, ↓y_mull, ↓y_eqi, ↓y_eqs, ↓y_nei, ↓y_nes, ↓y_eqt, ↓y_eql, ↓y_lti, ↓y_fi, ↓y_fi0, ↓y_isb, ↓y_ixt, ↓y_ixl, ↓y_lent, ↓y_lenl, ↓y_int, ↓y_tupl, ↓y_tupt, ↓y_lstt, ↓y_lstl, ↓y_slt, ↓y_sll, ↓y_repr, ↓y_at0, ↓y_at1, ↓y_at2, ↓y_at3, ↓y_at4, ↓y_st1, ↓y_st2, ↓y_st3, ↓y_st4, ↓y_exd, atI_0, atI_1, atI_2, atI_3, atI_4, cut_drop1]
    repeat (apply And.intro; · first | exact small (by omega) | exact small (by decide))
    exact hK _ rfl
  rintro Γ rfl
  refine seqP (fun Γ => Γ = [.own true hd, .val (.tuple (.str z :: ps)), .own false wrongL, .unk]) (fun K hK => ?_) ?_
  · simp only [dSeq, dRet, dRetN, dNext, dAndV, dOrV, dNotV, dIsi, dVar, dC, dUn, dOp, dCB, dCons, dNil, dTup, dLst, dTest, dAnd, dOr, dNot, dIf, dIfS, dAsg, dPar, dDrop, dAug, dAsgT, dgName, dgNil, dgCons, dgTup, dCall, dCallX, fInT, fIxT, dSl, dPart, dNoPart, dLenV, dIxV, dSlV, dApp, dExt, dPop, dSetIx, ownQ, putO, dYes, dSeqI, dEnum, dRng1, wipeG, startG, List.map_cons, List.map_nil, List.length_cons, List.length_nil, List.replicate, List.cons_append, List.nil_append, List.getElem?_cons_zero, List.getElem?_cons_succ, List.set_cons_zero, List.set_cons_succ, Nat.reduceAdd, Nat.reduceSub, Nat.zero_add, ne_eq, reduceCtorEq, not_false_eq_true, true_and, if_true, if_false, Bool.false_eq_true, decide_eq_true_eq, decide_true, decide_false, Bool.not_true, Bool.not_false, ite_true, ite_false, reduceIte, Option.some.injEq, exists_eq_left', List.drop_succ_cons, List.drop_zero, ↓y_wdv, ↓y_wdo, ↓y_wds0, ↓y_wds1, ↓y_okv, ↓y_oko, ↓y_addi, ↓y_adds, ↓y_addt, ↓y_addl, ↓y_muli, ↓y_mull, ↓y_eqi, ↓y_eqs, ↓y_nei, ↓y_nes, ↓y_eqt, ↓y_eql, ↓y_lti, ↓y_fi, ↓y_fi0, ↓y_isb, ↓y_ixt, ↓y_ixl, ↓y_lent, ↓y_lenl, ↓y_int, ↓y_tupl, ↓y_tupt, ↓y_lstt, ↓y_lstl, ↓y_slt, ↓y_sll, ↓y_repr, ↓y_at0, ↓y_at1, ↓y_at2, ↓y_at3, ↓y_at4, ↓y_st1, ↓y_st2, ↓y_st3, ↓y_st4, ↓y_exd, atI_0, atI_1, atI_2, atI_3, atI_4, cut_drop1]
    repeat (apply And.intro; · first | exact small (by omega) | exact small (by decide))
    exact hK _ rfl
  rintro Γ rfl
  refine seqP (fun Γ => ∃ hd' r, Γ = [.own true hd', .val (.tuple (.str z :: ps)), .val (.list wrongL), .val r] ∧ HandOk hd' ∧ ¬ IsTr r) (fun K hK => ?_) ?_
  · simp only [dCallH, dSeq, dRet, dRetN, dNext, dAndV, dOrV, dNotV, dIsi, dVar, dC, dUn, dOp, dCB, dCons, dNil, dTup, dLst, dTest, dAnd, dOr, dNot, dIf, dIfS, dAsg, dPar, dDrop, dAug, dAsgT, dgName, dgNil, dgCons, dgTup, dCall, dCallX, fInT, fIxT, dSl, dPart, dNoPart, dLenV, dIxV, dSlV, dApp, dExt, dPop, dSetIx, ownQ, putO, dYes, dSeqI, dEnum, dRng1, wipeG, startG, List.map_cons, List.map_nil, List.length_cons, List.length_nil, List.replicate, List.cons_append, List.nil_append, List.getElem?_cons_zero, List.getElem?_cons_succ, List.set_cons_zero, List.set_cons_succ, Nat.reduceAdd, Nat.reduceSub, Nat.zero_add, ne_eq, reduceCtorEq, not_false_eq_true, true_and, if_true, if_false, Bool.false_eq_true, decide_eq_true_eq, decide_true, decide_false, Bool.not_true, Bool.not_false, ite_true, ite_false, reduceIte, Option.some.injEq, exists_eq_left', List.drop_succ_cons, List.drop_zero, ↓y_wdv, ↓y_wdo, ↓y_wds0, ↓y_wds1, ↓y_okv, ↓y_oko, ↓y_addi, ↓y_adds, ↓y_addt, ↓y_addl, ↓y_muli, ↓y_mull, ↓y_eqi, ↓y_eqs, ↓y_nei, ↓y_nes, ↓y_eqt, ↓y_eql, ↓y_lti, ↓y_fi, ↓y_fi0, ↓y_isb, ↓y_ixt, ↓y_ixl, ↓y_lent, ↓y_lenl, ↓y_int, ↓y_tupl, ↓y_tupt, ↓y_lstt, ↓y_lstl, ↓y_slt, ↓y_sll, ↓y_repr, ↓y_at0, ↓y_at1, ↓y_at2, ↓y_at3, ↓y_at4, ↓y_st1, ↓y_st2, ↓y_st3, ↓y_st4, ↓y_exd, atI_0, atI_1, atI_2, atI_3, atI_4, cut_drop1]
    refine ⟨_, rfl, ht, hdp, hnd, fun qs hqs hlen => ?_⟩
    simp only [dSeq, dRet, dRetN, dNext, dAndV, dOrV, dNotV, dIsi, dVar, dC, dUn, dOp, dCB, dCons, dNil, dTup, dLst, dTest, dAnd, dOr, dNot, dIf, dIfS, dAsg, dPar, dDrop, dAug, dAsgT, dgName, dgNil, dgCons, dgTup, dCall, dCallX, fInT, fIxT, dSl, dPart, dNoPart, dLenV, dIxV, dSlV, dApp, dExt, dPop, dSetIx, ownQ, putO, dYes, dSeqI, dEnum, dRng1, wipeG, startG, List.map_cons, List.map_nil, List.length_cons, List.length_nil, List.replicate, List.cons_append, List.nil_append, List.getElem?_cons_zero, List.getElem?_cons_succ, List.set_cons_zero, List.set_cons_succ, Nat.reduceAdd, Nat.reduceSub, Nat.zero_add, ne_eq, reduceCtorEq, not_false_eq_true, true_and, if_true, if_false, Bool.false_eq_true, decide_eq_true_eq, decide_true, decide_false, Bool.not_true, Bool.not_false, ite_true, ite_false, reduceIte, Option.some.injEq, exists_eq_left', List.drop_succ_cons, List.drop_zero, ↓y_wdv, ↓y_wdo, ↓y_wds0, ↓y_wds1, ↓y_okv, ↓y_oko, ↓y_addi, ↓y_adds, ↓y_addt, ↓y_addl, ↓y_muli, ↓y_mull, ↓y_eqi, ↓y_eqs, ↓y_nei, ↓y_nes, ↓y_eqt, ↓y_eql, ↓y_lti, ↓y_fi, ↓y_fi0, ↓y_isb, ↓y_ixt, ↓y_ixl, ↓y_lent, ↓y_lenl, ↓y_int, ↓y_tupl, ↓y_tupt, ↓y_lstt, ↓y_lstl, ↓y_slt, ↓y_sll, ↓y_repr, ↓y_at0, ↓y_at1, ↓y_at2, ↓y_at3, ↓y_at4, ↓y_st1, ↓y_st2, ↓y_st3, ↓y_st4, ↓y_exd, atI_0, atI_1, atI_2, atI_3, atI_4, cut_drop1]
    refine hsome _ _ _ hh (by rw [List.length_map, hlen]; exact nd_pos _) (by rw [List.length_map, hlen]; omega) (fun q hd1 hq hh1 => ?_) _
    obtain ⟨p, hp, rfl⟩ := List.mem_map.mp hq
    obtain ⟨hp1, hp2⟩ := hqs p hp
    simp only [dSeq, dRet, dRetN, dNext, dAndV, dOrV, dNotV, dIsi, dVar, dC, dUn, dOp, dCB, dCons, dNil, dTup, dLst, dTest, dAnd, dOr, dNot, dIf, dIfS, dAsg, dPar, dDrop, dAug, dAsgT, dgName, dgNil, dgCons, dgTup, dCall, dCallX, fInT, fIxT, dSl, dPart, dNoPart, dLenV, dIxV, dSlV, dApp, dExt, dPop, dSetIx, ownQ, putO, dYes, dSeqI, dEnum, dRng1, wipeG, startG, List.map_cons, List.map_nil, List.length_cons, List.length_nil, List.replicate, List.cons_append, List.nil_append, List.getElem?_cons_zero, List.getElem?_cons_succ, List.set_cons_zero, List.set_cons_succ, Nat.reduceAdd, Nat.reduceSub, Nat.zero_add, ne_eq, reduceCtorEq, not_false_eq_true, true_and, if_true, if_false, Bool.false_eq_true, decide_eq_true_eq, decide_true, decide_false, Bool.not_true, Bool.not_false, ite_true, ite_false, reduceIte, Option.some.injEq, exists_eq_left', List.drop_succ_cons, List.drop_zero, ↓y_wdv, ↓y_wdo, ↓y_wds0, ↓y_wds1, ↓y_okv, ↓y_oko, ↓y_addi, ↓y_adds, ↓y_addt, ↓y_addl, ↓y_muli, ↓y_mull, ↓y_eqi, ↓y_eqs, ↓y_nei, ↓y_nes, ↓y_eqt, ↓y_eql, ↓y_lti, ↓y_fi, ↓y_fi0, ↓y_isb, ↓y_ixt, ↓y_ixl, ↓y_lent, ↓y_lenl, ↓y_int, ↓y_tupl, ↓y_tupt, ↓y_lstt, ↓y_lstl, ↓y_slt, ↓y_sll, ↓y_repr, ↓y_at0, ↓y_at1, ↓y_at2, ↓y_at3, ↓y_at4, ↓y_st1, ↓y_st2, ↓y_st3, ↓y_st4, ↓y_exd, atI_0, atI_1, atI_2, atI_3, atI_4, cut_drop1]
    refine hsome _ _ _ hh1 (by decide) (by decide) (fun w hd2 hw hh2 => ?_) _
    simp only [dSeq, dRet, dRetN, dNext, dAndV, dOrV, dNotV, dIsi, dVar, dC, dUn, dOp, dCB, dCons, dNil, dTup, dLst, dTest, dAnd, dOr, dNot, dIf, dIfS, dAsg, dPar, dDrop, dAug, dAsgT, dgName, dgNil, dgCons, dgTup, dCall, dCallX, fInT, fIxT, dSl, dPart, dNoPart, dLenV, dIxV, dSlV, dApp, dExt, dPop, dSetIx, ownQ, putO, dYes, dSeqI, dEnum, dRng1, wipeG, startG, List.map_cons, List.map_nil, List.length_cons, List.length_nil, List.replicate, List.cons_append, List.nil_append, List.getElem?_cons_zero, List.getElem?_cons_succ, List.set_cons_zero, List.set_cons_succ, Nat.reduceAdd, Nat.reduceSub, Nat.zero_add, ne_eq, reduceCtorEq, not_false_eq_true, true_and, if_true, if_false, Bool.false_eq_true, decide_eq_true_eq, decide_true, decide_false, Bool.not_true, Bool.not_false, ite_true, ite_false, reduceIte, Option.some.injEq, exists_eq_left', List.drop_succ_cons, List.drop_zero, ↓y_wdv, ↓y_wdo, ↓y_wds0, ↓y_wds1, ↓y_okv, ↓y_oko, ↓y_addi, ↓y_adds, ↓y_addt, ↓y_addl, ↓y_muli, ↓y_mull, ↓y_eqi, ↓y_eqs, ↓y_nei, ↓y_nes, ↓y_eqt, ↓y_eql, ↓y_lti, ↓y_fi, ↓y_fi0, ↓y_isb, ↓y_ixt, ↓y_ixl, ↓y_lent, ↓y_lenl, ↓y_int, ↓y_tupl, ↓y_tupt, ↓y_lstt, ↓y_lstl, ↓y_slt, ↓y_sll, ↓y_repr, ↓y_at0, ↓y_at1, ↓y_at2, ↓y_at3, ↓y_at4, ↓y_st1, ↓y_st2, ↓y_st3, ↓y_st4, ↓y_exd, atI_0, atI_1, atI_2, atI_3, atI_4, cut_drop1]
    have hp5 : p.length ≤ 5 := by omega
    refine ⟨_, p, w, rfl, ht, hp1, hp5, fun r hr => ?_⟩
    simp only [dSeq, dRet, dRetN, dNext, dAndV, dOrV, dNotV, dIsi, dVar, dC, dUn, dOp, dCB, dCons, dNil, dTup, dLst, dTest, dAnd, dOr, dNot, dIf, dIfS, dAsg, dPar, dDrop, dAug, dAsgT, dgName, dgNil, dgCons, dgTup, dCall, dCallX, fInT, fIxT, dSl, dPart, dNoPart, dLenV, dIxV, dSlV, dApp, dExt, dPop, dSetIx, ownQ, putO, dYes, dSeqI, dEnum, dRng1, wipeG, startG, List.map_cons, List.map_nil, List.length_cons, List.length_nil, List.replicate, List.cons_append, List.nil_append, List.getElem?_cons_zero, List.getElem?_cons_succ, List.set_cons_zero, List.set_cons_succ, Nat.reduceAdd, Nat.reduceSub, Nat.zero_add, ne_eq, reduceCtorEq, not_false_eq_true, true_and, if_true, if_false, Bool.false_eq_true, decide_eq_true_eq, decide_true, decide_false, Bool.not_true, Bool.not_false, ite_true, ite_false, reduceIte, Option.some.injEq, exists_eq_left', List.drop_succ_cons, List.drop_zero, ↓y_wdv, ↓y_wdo, ↓y_wds0, ↓y_wds1, ↓y_okv, ↓y_oko, ↓y_addi, ↓y_adds, ↓y_addt, ↓y_addl, ↓y_muli, ↓y_mull, ↓y_eqi, ↓y_eqs, ↓y_nei, ↓y_nes, ↓y_eqt, ↓y_eql, ↓y_lti, ↓y_fi, ↓y_fi0, ↓y_isb, ↓y_ixt, ↓y_ixl, ↓y_lent, ↓y_lenl, ↓y_int, ↓y_tupl, ↓y_tupt, ↓y_lstt, ↓y_lstl, ↓y_slt, ↓y_sll, ↓y_repr, ↓y_at0, ↓y_at1, ↓y_at2, ↓y_at3, ↓y_at4, ↓y_st1, ↓y_st2, ↓y_st3, ↓y_st4, ↓y_exd, atI_0, atI_1, atI_2, atI_3, atI_4, cut_drop1]
    exact hK _ ⟨hd2, r, rfl, hh2, fun q => wrong_not w hw (hr q)⟩
  rintro Γ ⟨hd', r, rfl, hh', hr⟩
  simp only [dCallH, dSeq, dRet, dRetN, dNext, dAndV, dOrV, dNotV, dIsi, dVar, dC, dUn, dOp, dCB, dCons, dNil, dTup, dLst, dTest, dAnd, dOr, dNot, dIf, dIfS, dAsg, dPar, dDrop, dAug, dAsgT, dgName, dgNil, dgCons, dgTup, dCall, dCallX, fInT, fIxT, dSl, dPart, dNoPart, dLenV, dIxV, dSlV, dApp, dExt, dPop, dSetIx, ownQ, putO, dYes, dSeqI, dEnum, dRng1, wipeG, startG, List.map_cons, List.map_nil, List.length_cons, List.length_nil, List.replicate, List.cons_append, List.nil_append, List.getElem?_cons_zero, List.getElem?_cons_succ, List.set_cons_zero, List.set_cons_succ, Nat.reduceAdd, Nat.reduceSub, Nat.zero_add, ne_eq, reduceCtorEq, not_false_eq_true, true_and, if_true, if_false, Bool.false_eq_true, decide_eq_true_eq, decide_true, decide_false, Bool.not_true, Bool.not_false, ite_true, ite_false, reduceIte, Option.some.injEq, exists_eq_left', List.drop_succ_cons, List.drop_zero, ↓y_wdv, ↓y_wdo, ↓y_wds0, ↓y_wds1, ↓y_okv, ↓y_oko, ↓y_addi, ↓y_adds, ↓y_addt, ↓y_addl, ↓y_muli, ↓y_mull, ↓y_eqi, ↓y_eqs, ↓y_nei, ↓y_nes, ↓y_eqt, ↓y_eql, ↓y_lti, ↓y_fi, ↓y_fi0, ↓y_isb, ↓y_ixt, ↓y_ixl, ↓y_lent, ↓y_lenl, ↓y_int, ↓y_tupl, ↓y_tupt, ↓y_lstt, ↓y_lstl, ↓y_slt, ↓y_sll, ↓y_repr, ↓y_at0, ↓y_at1, ↓y_at2, ↓y_at3, ↓y_at4, ↓y_st1, ↓y_st2, ↓y_st3, ↓y_st4, ↓y_exd, atI_0, atI_1, atI_2, atI_3, atI_4, cut_drop1]
  refine ⟨301, rfl, by decide, by decide, hh', fun d1 hd1 ht1 hd11 hn1 hh1 => ?_⟩
  simp only [dSeq, dRet, dRetN, dNext, dAndV, dOrV, dNotV, dIsi, dVar, dC, dUn, dOp, dCB, dCons, dNil, dTup, dLst, dTest, dAnd, dOr, dNot, dIf, dIfS, dAsg, dPar, dDrop, dAug, dAsgT, dgName, dgNil, dgCons, dgTup, dCall, dCallX, fInT, fIxT, dSl, dPart, dNoPart, dLenV, dIxV, dSlV, dApp, dExt, dPop, dSetIx, ownQ, putO, dYes, dSeqI, dEnum, dRng1, wipeG, startG, List.map_cons, List.map_nil, List.length_cons, List.length_nil, List.replicate, List.cons_append, List.nil_append, List.getElem?_cons_zero, List.getElem?_cons_succ, List.set_cons_zero, List.set_cons_succ, Nat.reduceAdd, Nat.reduceSub, Nat.zero_add, ne_eq, reduceCtorEq, not_false_eq_true, true_and, if_true, if_false, Bool.false_eq_true, decide_eq_true_eq, decide_true, decide_false, Bool.not_true, Bool.not_false, ite_true, ite_false, reduceIte, Option.some.injEq, exists_eq_left', List.drop_succ_cons, List.drop_zero, ↓y_wdv, ↓y_wdo, ↓y_wds0, ↓y_wds1, ↓y_okv, ↓y_oko, ↓y_addi, ↓y_adds, ↓y_addt, ↓y_addl, ↓y_muli, ↓y_mull, ↓y_eqi, ↓y_eqs, ↓y_nei, ↓y_nes, ↓y_eqt, ↓y_eql, ↓y_lti, ↓y_fi, ↓y_fi0, ↓y_isb, ↓y_ixt, ↓y_ixl, ↓y_lent, ↓y_lenl, ↓y_int, ↓y_tupl, ↓y_tupt, ↓y_lstt, ↓y_lstl, ↓y_slt, ↓y_sll, ↓y_repr, ↓y_at0, ↓y_at1, ↓y_at2, ↓y_at3, ↓y_at4, ↓y_st1, ↓y_st2, ↓y_st3, ↓y_st4, ↓y_exd, atI_0, atI_1, atI_2, atI_3, atI_4, cut_drop1]
  refine ⟨41, rfl, by decide, by decide, hh1, fun d2 hd2 ht2 hd22 hn2 hh2 => ?_⟩
  simp only [dSeq, dRet, dRetN, dNext, dAndV, dOrV, dNotV, dIsi, dVar, dC, dUn, dOp, dCB, dCons, dNil, dTup, dLst, dTest, dAnd, dOr, dNot, dIf, dIfS, dAsg, dPar, dDrop, dAug, dAsgT, dgName, dgNil, dgCons, dgTup, dCall, dCallX, fInT, fIxT, dSl, dPart, dNoPart, dLenV, dIxV, dSlV, dApp, dExt, dPop, dSetIx, ownQ, putO, dYes, dSeqI, dEnum, dRng1, wipeG, startG, List.map_cons, List.map_nil, List.length_cons, List.length_nil, List.replicate, List.cons_append, List.nil_append, List.getElem?_cons_zero, List.getElem?_cons_succ, List.set_cons_zero, List.set_cons_succ, Nat.reduceAdd, Nat.reduceSub, Nat.zero_add, ne_eq, reduceCtorEq, not_false_eq_true, true_and, if_true, if_false, Bool.false_eq_true, decide_eq_true_eq, decide_true, decide_false, Bool.not_true, Bool.not_false, ite_true, ite_false, reduceIte, Option.some.injEq, exists_eq_left', List.drop_succ_cons, List.drop_zero, ↓y_wdv, ↓y_wdo, ↓y_wds0, ↓y_wds1, ↓y_okv, ↓y_oko, ↓y_addi, ↓y_adds, ↓y_addt, ↓y_addl, ↓y_muli, ↓y_mull, ↓y_eqi, ↓y_eqs, ↓y_nei, ↓y_nes, ↓y_eqt, ↓y_eql, ↓y_lti, ↓y_fi, ↓y_fi0, ↓y_isb, ↓y_ixt, ↓y_ixl, ↓y_lent, ↓y_lenl, ↓y_int, ↓y_tupl, ↓y_tupt, ↓y_lstt, ↓y_lstl, ↓y_slt, ↓y_sll, ↓y_repr, ↓y_at0, ↓y_at1, ↓y_at2, ↓y_at3, ↓y_at4, ↓y_st1, ↓y_st2, ↓y_st3, ↓y_st4, ↓y_exd, atI_0, atI_1, atI_2, atI_3, atI_4, cut_drop1]
  refine ⟨small (by omega), small (by omega), hsome _ _ _ hh2 (by simp) (by simp) (fun x hd3 hx hh3 => ?_) _⟩
  simp only [dSeq, dRet, dRetN, dNext, dAndV, dOrV, dNotV, dIsi, dVar, dC, dUn, dOp, dCB, dCons, dNil, dTup, dLst, dTest, dAnd, dOr, dNot, dIf, dIfS, dAsg, dPar, dDrop, dAug, dAsgT, dgName, dgNil, dgCons, dgTup, dCall, dCallX, fInT, fIxT, dSl, dPart, dNoPart, dLenV, dIxV, dSlV, dApp, dExt, dPop, dSetIx, ownQ, putO, dYes, dSeqI, dEnum, dRng1, wipeG, startG, List.map_cons, List.map_nil, List.length_cons, List.length_nil, List.replicate, List.cons_append, List.nil_append, List.getElem?_cons_zero, List.getElem?_cons_succ, List.set_cons_zero, List.set_cons_succ, Nat.reduceAdd, Nat.reduceSub, Nat.zero_add, ne_eq, reduceCtorEq, not_false_eq_true, true_and, if_true, if_false, Bool.false_eq_true, decide_eq_true_eq, decide_true, decide_false, Bool.not_true, Bool.not_false, ite_true, ite_false, reduceIte, Option.some.injEq, exists_eq_left', List.drop_succ_cons, List.drop_zero, ↓y_wdv, ↓y_wdo, ↓y_wds0, ↓y_wds1, ↓y_okv, ↓y_oko, ↓y_addi, ↓y_adds, ↓y_addt, ↓y_addl, ↓y_muli, ↓y_mull, ↓y_eqi, ↓y_eqs, ↓y_nei, ↓y_nes, ↓y_eqt, ↓y_eql, ↓y_lti, ↓y_fi, ↓y_fi0, ↓y_isb, ↓y_ixt, ↓y_ixl, ↓y_lent, ↓y_lenl, ↓y_int, ↓y_tupl, ↓y_tupt, ↓y_lstt, ↓y_lstl, ↓y_slt, ↓y_sll, ↓y_repr, ↓y_at0, ↓y_at1, ↓y_at2, ↓y_at3, ↓y_at4, ↓y_st1, ↓y_st2, ↓y_st3, ↓y_st4, ↓y_exd, atI_0, atI_1, atI_2, atI_3, atI_4, cut_drop1]
  refine h x hd3 (isTree_false fun q => ?_) hh3
  simp only [List.mem_cons, List.not_mem_nil, or_false] at hx
  rcases hx with rfl | rfl | rfl | rfl | rfl | rfl | rfl
  · exact hr q.1
  · exact hr q.1
  · exact hr q.1
  · cases q.1
  · omega
  · omega
  · cases q.1
end K00

namespace K00
open PySem PySem.Spec PyProof.Rows L2 LamX DL
def db_ulaw_is_right (sp_is_tree : SpP) (sp_nodes_many : SpP) (sp_ulaw_nodes : SpP) (sp_deep : SpP) (sp_ulaw_deep : SpP) (sp_signs_in : SpP) (sp_ulaw_signs : SpP)  : DS := (dSeq (dIfS (dOr (dTest (dOp (fIsB true) (dCall sp_is_tree (dCons (dVar 0) dNil)) (dC (.bool true)))) (dTest (dOp fNe (dCB fReprI (dCons (dCall sp_nodes_many (dCons (dVar 0) dNil)) dNil)) (dCB fReprI (dCons (dCall sp_ulaw_nodes (dCons (dVar 0) dNil)) dNil)))))
    (dRet (dC (.bool false)))
    dNext)
    (dRet (dAndV (dOp fEq (dCB fReprI (dCons (dCall sp_deep (dCons (dVar 0) dNil)) dNil)) (dCB fReprI (dCons (dCall sp_ulaw_deep (dCons (dVar 0) dNil)) dNil))) (dOp fEq (dCall sp_signs_in (dCons (dVar 0) dNil)) (dCall sp_ulaw_signs (dCons (dVar 0) dNil))))))
theorem c_ulaw_is_right {P : Program} {w : World} {K : PySem.W.Frag} {mg : Str → Option Value} {base : Heap} {T : List (Addr × Str)} {k : Nat} {sp_is_tree : SpP} {sp_nodes_many : SpP} {sp_ulaw_nodes : SpP} {sp_deep : SpP} {sp_ulaw_deep : SpP} {sp_signs_in : SpP} {sp_ulaw_signs : SpP} {sp : SpP} (D : DefAt K mg "_law_is_right" s_ulaw_is_right ["tree"]) (B : Bi mg builtL) (F_is_tree : Cal P w K mg base CX0 k "is_tree" (liftP K T sp_is_tree)) (F_nodes_many : Cal P w K mg base CX0 k "nodes_many" (liftP K T sp_nodes_many)) (F_ulaw_nodes : Cal P w K mg base CX0 k "_law_nodes" (liftP K T sp_ulaw_nodes)) (F_deep : Cal P w K mg base CX0 k "deep" (liftP K T sp_deep)) (F_ulaw_deep : Cal P w K mg base CX0 k "_law_deep" (liftP K T sp_ulaw_deep)) (F_signs_in : Cal P w K mg base CX0 k "signs_in" (liftP K T sp_signs_in)) (F_ulaw_signs : Cal P w K mg base CX0 k "_law_signs" (liftP K T sp_ulaw_signs)) (hlen : ∀ as Q R, sp as Q R → as.length = 1) (law : ∀ as Q0 R0, sp as Q0 R0 → db_ulaw_is_right sp_is_tree sp_nodes_many sp_ulaw_nodes sp_deep sp_ulaw_deep sp_signs_in sp_ulaw_signs  { nx := fun _ => Q0 (.val .none), rt := fun g _ => g ≠ .unk ∧ Q0 g } (startG 1 as)) :
    Cal P w K mg base CX0 (k + 1) "_law_is_right" (liftP K T sp) := by
  have sc := sc_ulaw_is_right
  have hj : k ≤ k := by omega
  exact D.mkP sc _ hlen (fun f cdv A outer s H E hr as Q0 R0 h => ⟨_, _, (by exact (ss_cons (s_if (t_bool (w_or (t_cmp c_notB (k_c F_is_tree hr (as_cons (e_var 0) as_nil) hj) (e_bl)) (w_or1 (t_cmp (k_ne K hr.units) (k_cb (q_repr) PyProof.Rows.boot_repr (B "repr" (by decide)) (as_cons (k_c F_nodes_many hr (as_cons (e_var 0) as_nil) hj) as_nil)) (k_cb (q_repr) PyProof.Rows.boot_repr (B "repr" (by decide)) (as_cons (k_c F_ulaw_nodes hr (as_cons (e_var 0) as_nil) hj) as_nil)))))) (ss_one (s_ret (e_bl))) ss_nil)
    (ss_one (s_ret (e_andV (e_cmp (k_eq K hr.units) (k_cb (q_repr) PyProof.Rows.boot_repr (B "repr" (by decide)) (as_cons (k_c F_deep hr (as_cons (e_var 0) as_nil) hj) as_nil)) (k_cb (q_repr) PyProof.Rows.boot_repr (B "repr" (by decide)) (as_cons (k_c F_ulaw_deep hr (as_cons (e_var 0) as_nil) hj) as_nil))) (e_one (e_cmp (k_eq K hr.units) (k_c F_signs_in hr (as_cons (e_var 0) as_nil) hj) (k_c F_ulaw_signs hr (as_cons (e_var 0) as_nil) hj)))))))), law as Q0 R0 h⟩)
theorem l_ulaw_is_right : ∀ as Q0 R0, spRight as Q0 R0 → db_ulaw_is_right spIsTree spMany (spNodes 40) spDeep (spDp 40) spSigns (spSg 40) { nx := fun _ => Q0 (.val .none), rt := fun g _ => g ≠ .unk ∧ Q0 g } (startG 1 as) := by
  rintro _ Q0 R0 ⟨d, rfl, h1, h2, h3, h⟩
  have e := isTree_iff.mpr ⟨h1, h2, h3⟩
  have lg : ∀ n : Nat, n ≤ 300 → ((n : Int).natAbs).log2 < 1920 := fun n hn => by
    rw [Int.natAbs_natCast]
    exact Nat.lt_of_le_of_lt (Nat.log2_le_self n) (by omega)
  have hN : ∀ Q R, Q (.val (.int (nd d))) → spMany [d] Q R := fun Q R q => ⟨d, rfl, e, q⟩
  have hN' : ∀ Q R, Q (.val (.int (nd d))) → spNodes 40 [d] Q R := fun Q R q => ⟨d, rfl, h1, h2, q⟩
  have hD : ∀ Q R, Q (.val (.int (dp d))) → spDeep [d] Q R := fun Q R q => ⟨d, rfl, e, q⟩
  have hD' : ∀ Q R, Q (.val (.int (dp d))) → spDp 40 [d] Q R := fun Q R q => ⟨d, rfl, h1, h2, q⟩
  have hS : ∀ Q R, Q (.val (.str (sg d))) → spSigns [d] Q R := fun Q R q => ⟨d, rfl, e, q⟩
  have hS' : ∀ Q R, Q (.val (.str (sg d))) → spSg 40 [d] Q R := fun Q R q => ⟨d, rfl, h1, h2, h3, q⟩
  unfold db_ulaw_is_right
  refine seq_if false (fun Q hq => ?_) (fun q => nomatch q) fun _ => ?_
  · simp only [dSeq, dRet, dRetN, dNext, dAndV, dOrV, dNotV, dIsi, dVar, dC, dUn, dOp, dCB, dCons, dNil, dTup, dLst, dTest, dAnd, dOr, dNot, dIf, dIfS, dAsg, dPar, dDrop, dAug, dAsgT, dgName, dgNil, dgCons, dgTup, dCall, dCallX, fInT, fIxT, dSl, dPart, dNoPart, dLenV, dIxV, dSlV, dApp, dExt, dPop, dSetIx, ownQ, putO, dYes, dSeqI, dEnum, dRng1, wipeG, startG, List.map_cons, List.map_nil, List.length_cons, List.length_nil, List.replicate, List.cons_append, List.nil_append, List.getElem?_cons_zero, List.getElem?_cons_succ, List.set_cons_zero, List.set_cons_succ, Nat.reduceAdd, Nat.reduceSub, Nat.zero_add, ne_eq, reduceCtorEq, not_false_eq_true, true_and, if_true, if_false, Bool.false_eq_true, decide_eq_true_eq, decide_true, decide_false, Bool.not_true, Bool.not_false, ite_true, ite_false, reduceIte, Option.some.injEq, exists_eq_left', List.drop_succ_cons, List.drop_zero, ↓y_wdv, ↓y_wdo, ↓y_wds0, ↓y_wds1, ↓y_okv, ↓y_oko, ↓y_addi, ↓y_adds, ↓y_addt, ↓y_addl, ↓y_muli, ↓y_mull, ↓y_eqi, ↓y_eqs, ↓y_nei, ↓y_nes, ↓y_eqt, ↓y_eql, ↓y_lti, ↓y_fi, ↓y_fi0, ↓y_isb, ↓y_ixt, ↓y_ixl, ↓y_lent, ↓y_lenl, ↓y_int, ↓y_tupl, ↓y_tupt, ↓y_lstt, ↓y_lstl, ↓y_slt, ↓y_sll, ↓y_repr, ↓y_at0, ↓y_at1, ↓y_at2, ↓y_at3, ↓y_at4, ↓y_st1, ↓y_st2, ↓y_st3, ↓y_st4, ↓y_exd, atI_0, atI_1, atI_2, atI_3, atI_4, cut_drop1]
    refine ⟨d, rfl, ?_⟩
    rw [e]
    simp only [dSeq, dRet, dRetN, dNext, dAndV, dOrV, dNotV, dIsi, dVar, dC, dUn, dOp, dCB, dCons, dNil, dTup, dLst, dTest, dAnd, dOr, dNot, dIf, dIfS, dAsg, dPar, dDrop, dAug, dAsgT, dgName, dgNil, dgCons, dgTup, dCall, dCallX, fInT, fIxT, dSl, dPart, dNoPart, dLenV, dIxV, dSlV, dApp, dExt, dPop, dSetIx, ownQ, putO, dYes, dSeqI, dEnum, dRng1, wipeG, startG, List.map_cons, List.map_nil, List.length_cons, List.length_nil, List.replicate, List.cons_append, List.nil_append, List.getElem?_cons_zero, List.getElem?_cons_succ, List.set_cons_zero, List.set_cons_succ, Nat.reduceAdd, Nat.reduceSub, Nat.zero_add, ne_eq, reduceCtorEq, not_false_eq_true, true_and, if_true, if_false, Bool.false_eq_true, decide_eq_true_eq, decide_true, decide_false, Bool.not_true, Bool.not_false, ite_true, ite_false, reduceIte, Option.some.injEq, exists_eq_left', List.drop_succ_cons, List.drop_zero, ↓y_wdv, ↓y_wdo, ↓y_wds0, ↓y_wds1, ↓y_okv, ↓y_oko, ↓y_addi, ↓y_adds, ↓y_addt, ↓y_addl, ↓y_muli, ↓y_mull, ↓y_eqi, ↓y_eqs, ↓y_nei, ↓y_nes, ↓y_eqt, ↓y_eql, ↓y_lti, ↓y_fi, ↓y_fi0, ↓y_isb, ↓y_ixt, ↓y_ixl, ↓y_lent, ↓y_lenl, ↓y_int, ↓y_tupl, ↓y_tupt, ↓y_lstt, ↓y_lstl, ↓y_slt, ↓y_sll, ↓y_repr, ↓y_at0, ↓y_at1, ↓y_at2, ↓y_at3, ↓y_at4, ↓y_st1, ↓y_st2, ↓y_st3, ↓y_st4, ↓y_exd, atI_0, atI_1, atI_2, atI_3, atI_4, cut_drop1]
    refine hN _ _ ?_
    simp only [dSeq, dRet, dRetN, dNext, dAndV, dOrV, dNotV, dIsi, dVar, dC, dUn, dOp, dCB, dCons, dNil, dTup, dLst, dTest, dAnd, dOr, dNot, dIf, dIfS, dAsg, dPar, dDrop, dAug, dAsgT, dgName, dgNil, dgCons, dgTup, dCall, dCallX, fInT, fIxT, dSl, dPart, dNoPart, dLenV, dIxV, dSlV, dApp, dExt, dPop, dSetIx, ownQ, putO, dYes, dSeqI, dEnum, dRng1, wipeG, startG, List.map_cons, List.map_nil, List.length_cons, List.length_nil, List.replicate, List.cons_append, List.nil_append, List.getElem?_cons_zero, List.getElem?_cons_succ, List.set_cons_zero, List.set_cons_succ, Nat.reduceAdd, Nat.reduceSub, Nat.zero_add, ne_eq, reduceCtorEq, not_false_eq_true, true_and, if_true, if_false, Bool.false_eq_true, decide_eq_true_eq, decide_true, decide_false, Bool.not_true, Bool.not_false, ite_true, ite_false, reduceIte, Option.some.injEq, exists_eq_left', List.drop_succ_cons, List.drop_zero, ↓y_wdv, ↓y_wdo, ↓y_wds0, ↓y_wds1, ↓y_okv, ↓y_oko, ↓y_addi, ↓y_adds, ↓y_addt, ↓y_addl, ↓y_muli, ↓y_mull, ↓y_eqi, ↓y_eqs, ↓y_nei, ↓y_nes, ↓y_eqt, ↓y_eql, ↓y_lti, ↓y_fi, ↓y_fi0, ↓y_isb, ↓y_ixt, ↓y_ixl, ↓y_lent, ↓y_lenl, ↓y_int, ↓y_tupl, ↓y_tupt, ↓y_lstt, ↓y_lstl, ↓y_slt, ↓y_sll, ↓y_repr, ↓y_at0, ↓y_at1, ↓y_at2, ↓y_at3, ↓y_at4, ↓y_st1, ↓y_st2, ↓y_st3, ↓y_st4, ↓y_exd, atI_0, atI_1, atI_2, atI_3, atI_4, cut_drop1]
    refine ⟨lg _ h3, hN' _ _ ?_⟩
    simp only [dSeq, dRet, dRetN, dNext, dAndV, dOrV, dNotV, dIsi, dVar, dC, dUn, dOp, dCB, dCons, dNil, dTup, dLst, dTest, dAnd, dOr, dNot, dIf, dIfS, dAsg, dPar, dDrop, dAug, dAsgT, dgName, dgNil, dgCons, dgTup, dCall, dCallX, fInT, fIxT, dSl, dPart, dNoPart, dLenV, dIxV, dSlV, dApp, dExt, dPop, dSetIx, ownQ, putO, dYes, dSeqI, dEnum, dRng1, wipeG, startG, List.map_cons, List.map_nil, List.length_cons, List.length_nil, List.replicate, List.cons_append, List.nil_append, List.getElem?_cons_zero, List.getElem?_cons_succ, List.set_cons_zero, List.set_cons_succ, Nat.reduceAdd, Nat.reduceSub, Nat.zero_add, ne_eq, reduceCtorEq, not_false_eq_true, true_and, if_true, if_false, Bool.false_eq_true, decide_eq_true_eq, decide_true, decide_false, Bool.not_true, Bool.not_false, ite_true, ite_false, reduceIte, Option.some.injEq, exists_eq_left', List.drop_succ_cons, List.drop_zero, ↓y_wdv, ↓y_wdo, ↓y_wds0, ↓y_wds1, ↓y_okv, ↓y_oko, ↓y_addi, ↓y_adds, ↓y_addt, ↓y_addl, ↓y_muli, ↓y_mull, ↓y_eqi, ↓y_eqs, ↓y_nei, ↓y_nes, ↓y_eqt, ↓y_eql, ↓y_lti, ↓y_fi, ↓y_fi0, ↓y_isb, ↓y_ixt, ↓y_ixl, ↓y_lent, ↓y_lenl, ↓y_int, ↓y_tupl, ↓y_tupt, ↓y_lstt, ↓y_lstl, ↓y_slt, ↓y_sll, ↓y_repr, ↓y_at0, ↓y_at1, ↓y_at2, ↓y_at3, ↓y_at4, ↓y_st1, ↓y_st2, ↓y_st3, ↓y_st4, ↓y_exd, atI_0, atI_1, atI_2, atI_3, atI_4, cut_drop1]
    refine ⟨lg _ h3, ?_⟩
    exact hq
  · simp only [dSeq, dRet, dRetN, dNext, dAndV, dOrV, dNotV, dIsi, dVar, dC, dUn, dOp, dCB, dCons, dNil, dTup, dLst, dTest, dAnd, dOr, dNot, dIf, dIfS, dAsg, dPar, dDrop, dAug, dAsgT, dgName, dgNil, dgCons, dgTup, dCall, dCallX, fInT, fIxT, dSl, dPart, dNoPart, dLenV, dIxV, dSlV, dApp, dExt, dPop, dSetIx, ownQ, putO, dYes, dSeqI, dEnum, dRng1, wipeG, startG, List.map_cons, List.map_nil, List.length_cons, List.length_nil, List.replicate, List.cons_append, List.nil_append, List.getElem?_cons_zero, List.getElem?_cons_succ, List.set_cons_zero, List.set_cons_succ, Nat.reduceAdd, Nat.reduceSub, Nat.zero_add, ne_eq, reduceCtorEq, not_false_eq_true, true_and, if_true, if_false, Bool.false_eq_true, decide_eq_true_eq, decide_true, decide_false, Bool.not_true, Bool.not_false, ite_true, ite_false, reduceIte, Option.some.injEq, exists_eq_left', List.drop_succ_cons, List.drop_zero, ↓y_wdv, ↓y_wdo, ↓y_wds0, ↓y_wds1, ↓y_okv, ↓y_oko, ↓y_addi, ↓y_adds, ↓y_addt, ↓y_addl, ↓y_muli, ↓y_mull, ↓y_eqi, ↓y_eqs, ↓y_nei, ↓y_nes, ↓y_eqt, ↓y_eql, ↓y_lti, ↓y_fi, ↓y_fi0, ↓y_isb, ↓y_ixt, ↓y_ixl, ↓y_lent, ↓y_lenl, ↓y_int, ↓y_tupl, ↓y_tupt, ↓y_lstt, ↓y_lstl, ↓y_slt, ↓y_sll, ↓y_repr, ↓y_at0, ↓y_at1, ↓y_at2, ↓y_at3, ↓y_at4, ↓y_st1, ↓y_st2, ↓y_st3, ↓y_st4, ↓y_exd, atI_0, atI_1, atI_2, atI_3, atI_4, cut_drop1]
    refine hD _ _ ?_
    simp only [dSeq, dRet, dRetN, dNext, dAndV, dOrV, dNotV, dIsi, dVar, dC, dUn, dOp, dCB, dCons, dNil, dTup, dLst, dTest, dAnd, dOr, dNot, dIf, dIfS, dAsg, dPar, dDrop, dAug, dAsgT, dgName, dgNil, dgCons, dgTup, dCall, dCallX, fInT, fIxT, dSl, dPart, dNoPart, dLenV, dIxV, dSlV, dApp, dExt, dPop, dSetIx, ownQ, putO, dYes, dSeqI, dEnum, dRng1, wipeG, startG, List.map_cons, List.map_nil, List.length_cons, List.length_nil, List.replicate, List.cons_append, List.nil_append, List.getElem?_cons_zero, List.getElem?_cons_succ, List.set_cons_zero, List.set_cons_succ, Nat.reduceAdd, Nat.reduceSub, Nat.zero_add, ne_eq, reduceCtorEq, not_false_eq_true, true_and, if_true, if_false, Bool.false_eq_true, decide_eq_true_eq, decide_true, decide_false, Bool.not_true, Bool.not_false, ite_true, ite_false, reduceIte, Option.some.injEq, exists_eq_left', List.drop_succ_cons, List.drop_zero, ↓y_wdv, ↓y_wdo, ↓y_wds0, ↓y_wds1, ↓y_okv, ↓y_oko, ↓y_addi, ↓y_adds, ↓y_addt, ↓y_addl, ↓y_muli, ↓y_mull, ↓y_eqi, ↓y_eqs, ↓y_nei, ↓y_nes, ↓y_eqt, ↓y_eql, ↓y_lti, ↓y_fi, ↓y_fi0, ↓y_isb, ↓y_ixt, ↓y_ixl, ↓y_lent, ↓y_lenl, ↓y_int, ↓y_tupl, ↓y_tupt, ↓y_lstt, ↓y_lstl, ↓y_slt, ↓y_sll, ↓y_repr, ↓y_at0, ↓y_at1, ↓y_at2, ↓y_at3, ↓y_at4, ↓y_st1, ↓y_st2, ↓y_st3, ↓y_st4, ↓y_exd, atI_0, atI_1, atI_2, atI_3, atI_4, cut_drop1]
    refine ⟨lg _ (by omega), hD' _ _ ?_⟩
    simp only [dSeq, dRet, dRetN, dNext, dAndV, dOrV, dNotV, dIsi, dVar, dC, dUn, dOp, dCB, dCons, dNil, dTup, dLst, dTest, dAnd, dOr, dNot, dIf, dIfS, dAsg, dPar, dDrop, dAug, dAsgT, dgName, dgNil, dgCons, dgTup, dCall, dCallX, fInT, fIxT, dSl, dPart, dNoPart, dLenV, dIxV, dSlV, dApp, dExt, dPop, dSetIx, ownQ, putO, dYes, dSeqI, dEnum, dRng1, wipeG, startG, List.map_cons, List.map_nil, List.length_cons, List.length_nil, List.replicate, List.cons_append, List.nil_append, List.getElem?_cons_zero, List.getElem?_cons_succ, List.set_cons_zero, List.set_cons_succ, Nat.reduceAdd, Nat.reduceSub, Nat.zero_add, ne_eq, reduceCtorEq, not_false_eq_true, true_and, if_true, if_false, Bool.false_eq_true, decide_eq_true_eq, decide_true, decide_false, Bool.not_true, Bool.not_false, ite_true, ite_false, reduceIte, Option.some.injEq, exists_eq_left', List.drop_succ_cons, List.drop_zero, ↓y_wdv, ↓y_wdo, ↓y_wds0, ↓y_wds1, ↓y_okv, ↓y_oko, ↓y_addi, ↓y_adds, ↓y_addt, ↓y_addl, ↓y_muli, ↓y_mull, ↓y_eqi, ↓y_eqs, ↓y_nei, ↓y_nes, ↓y_eqt, ↓y_eql, ↓y_lti, ↓y_fi, ↓y_fi0, ↓y_isb, ↓y_ixt, ↓y_ixl, ↓y_lent, ↓y_lenl, ↓y_int, ↓y_tupl, ↓y_tupt, ↓y_lstt, ↓y_lstl, ↓y_slt, ↓y_sll, ↓y_repr, ↓y_at0, ↓y_at1, ↓y_at2, ↓y_at3, ↓y_at4, ↓y_st1, ↓y_st2, ↓y_st3, ↓y_st4, ↓y_exd, atI_0, atI_1, atI_2, atI_3, atI_4, cut_drop1]
    refine ⟨lg _ (by omega), ?_⟩
    refine hS _ _ ?_
    simp only [dSeq, dRet, dRetN, dNext, dAndV, dOrV, dNotV, dIsi, dVar, dC, dUn, dOp, dCB, dCons, dNil, dTup, dLst, dTest, dAnd, dOr, dNot, dIf, dIfS, dAsg, dPar, dDrop, dAug, dAsgT, dgName, dgNil, dgCons, dgTup, dCall, dCallX, fInT, fIxT, dSl, dPart, dNoPart, dLenV, dIxV, dSlV, dApp, dExt, dPop, dSetIx, ownQ, putO, dYes, dSeqI, dEnum, dRng1, wipeG, startG, List.map_cons, List.map_nil, List.length_cons, List.length_nil, List.replicate, List.cons_append, List.nil_append, List.getElem?_cons_zero, List.getElem?_cons_succ, List.set_cons_zero, List.set_cons_succ, Nat.reduceAdd, Nat.reduceSub, Nat.zero_add, ne_eq, reduceCtorEq, not_false_eq_true, true_and, if_true, if_false, Bool.false_eq_true, decide_eq_true_eq, decide_true, decide_false, Bool.not_true, Bool.not_false, ite_true, ite_false, reduceIte, Option.some.injEq, exists_eq_left', List.drop_succ_cons, List.drop_zero, ↓y_wdv, ↓y_wdo, ↓y_wds0, ↓y_wds1, ↓y_okv, ↓y_oko, ↓y_addi, ↓y_adds, ↓y_addt, ↓y_addl, ↓y_muli, ↓y_mull, ↓y_eqi, ↓y_eqs, ↓y_nei, ↓y_nes, ↓y_eqt, ↓y_eql, ↓y_lti, ↓y_fi, ↓y_fi0, ↓y_isb, ↓y_ixt, ↓y_ixl, ↓y_lent, ↓y_lenl, ↓y_int, ↓y_tupl, ↓y_tupt, ↓y_lstt, ↓y_lstl, ↓y_slt, ↓y_sll, ↓y_repr, ↓y_at0, ↓y_at1, ↓y_at2, ↓y_at3, ↓y_at4, ↓y_st1, ↓y_st2, ↓y_st3, ↓y_st4, ↓y_exd, atI_0, atI_1, atI_2, atI_3, atI_4, cut_drop1]
    refine hS' _ _ ?_
    simp only [dSeq, dRet, dRetN, dNext, dAndV, dOrV, dNotV, dIsi, dVar, dC, dUn, dOp, dCB, dCons, dNil, dTup, dLst, dTest, dAnd, dOr, dNot, dIf, dIfS, dAsg, dPar, dDrop, dAug, dAsgT, dgName, dgNil, dgCons, dgTup, dCall, dCallX, fInT, fIxT, dSl, dPart, dNoPart, dLenV, dIxV, dSlV, dApp, dExt, dPop, dSetIx, ownQ, putO, dYes, dSeqI, dEnum, dRng1, wipeG, startG, List.map_cons, List.map_nil, List.length_cons, List.length_nil, List.replicate, List.cons_append, List.nil_append, List.getElem?_cons_zero, List.getElem?_cons_succ, List.set_cons_zero, List.set_cons_succ, Nat.reduceAdd, Nat.reduceSub, Nat.zero_add, ne_eq, reduceCtorEq, not_false_eq_true, true_and, if_true, if_false, Bool.false_eq_true, decide_eq_true_eq, decide_true, decide_false, Bool.not_true, Bool.not_false, ite_true, ite_false, reduceIte, Option.some.injEq, exists_eq_left', List.drop_succ_cons, List.drop_zero, ↓y_wdv, ↓y_wdo, ↓y_wds0, ↓y_wds1, ↓y_okv, ↓y_oko, ↓y_addi, ↓y_adds, ↓y_addt, ↓y_addl, ↓y_muli, ↓y_mull, ↓y_eqi, ↓y_eqs, ↓y_nei, ↓y_nes, ↓y_eqt, ↓y_eql, ↓y_lti, ↓y_fi, ↓y_fi0, ↓y_isb, ↓y_ixt, ↓y_ixl, ↓y_lent, ↓y_lenl, ↓y_int, ↓y_tupl, ↓y_tupt, ↓y_lstt, ↓y_lstl, ↓y_slt, ↓y_sll, ↓y_repr, ↓y_at0, ↓y_at1, ↓y_at2, ↓y_at3, ↓y_at4, ↓y_st1, ↓y_st2, ↓y_st3, ↓y_st4, ↓y_exd, atI_0, atI_1, atI_2, atI_3, atI_4, cut_drop1]
    exact h
end K00

namespace K00
open PySem PySem.Spec PyProof.Rows L2 LamX DL
def db_ulaw_is_refused (sp_nodes_many : SpP) (sp_deep : SpP) (sp_signs_in : SpP) (sp_paths_of : SpP) (sp_mirrored : SpP) (sp_tree_text : SpP) (sp_lines_of : SpP) (sp_is_tree : SpP)  (w_D : Addr) (w_1 w_3 : Str) : DS := (dSeq (dAsg 1 (dLst (dCons (dLam w_D w_1 w_3 (dCallX sp_nodes_many (dCons (dVar 0) dNil))) dNil)))
    (dSeq (dDrop (dApp 1 (dLam w_D w_1 w_3 (dCallX sp_deep (dCons (dVar 0) dNil)))))
    (dSeq (dDrop (dApp 1 (dLam w_D w_1 w_3 (dCallX sp_signs_in (dCons (dVar 0) dNil)))))
    (dSeq (dDrop (dApp 1 (dLam w_D w_1 w_3 (dCallX sp_paths_of (dCons (dVar 0) dNil)))))
    (dSeq (dDrop (dApp 1 (dLam w_D w_1 w_3 (dCallX sp_mirrored (dCons (dVar 0) dNil)))))
    (dSeq (dDrop (dApp 1 (dLam w_D w_1 w_3 (dCallX sp_tree_text (dCons (dVar 0) dNil)))))
    (dSeq (dDrop (dApp 1 (dLam w_D w_1 w_3 (dCallX sp_lines_of (dCons (dVar 0) dNil)))))
    (dRet (dAndV (dOp (fIsB false) (dCall sp_is_tree (dCons (dVar 0) dNil)) (dC (.bool false))) (dOp fEq (dVar 1) (dOp fMul (dLst (dCons (dC (.str "tree")) dNil)) (dC (.int 7)))))))))))))
theorem c_ulaw_is_refused {P : Program} {w : World} {K : PySem.W.Frag} {mg : Str → Option Value} {base : Heap} {T : List (Addr × Str)} {k : Nat} {sp_nodes_many : SpP} {sp_deep : SpP} {sp_signs_in : SpP} {sp_paths_of : SpP} {sp_mirrored : SpP} {sp_tree_text : SpP} {sp_lines_of : SpP} {sp_is_tree : SpP} {sp : SpP} {w_D P_T : Addr} {w_1 w_3 : Str} (D : DefAt K mg "_law_is_refused" s_ulaw_is_refused ["thing"]) (B : Bi mg builtL) (F_nodes_many : Cal P w K mg base (L2.CX P w) k "nodes_many" (liftP K T sp_nodes_many)) (F_deep : Cal P w K mg base (L2.CX P w) k "deep" (liftP K T sp_deep)) (F_signs_in : Cal P w K mg base (L2.CX P w) k "signs_in" (liftP K T sp_signs_in)) (F_paths_of : Cal P w K mg base (L2.CX P w) k "paths_of" (liftP K T sp_paths_of)) (F_mirrored : Cal P w K mg base (L2.CX P w) k "mirrored" (liftP K T sp_mirrored)) (F_tree_text : Cal P w K mg base (L2.CX P w) k "tree_text" (liftP K T sp_tree_text)) (F_lines_of : Cal P w K mg base (L2.CX P w) k "lines_of" (liftP K T sp_lines_of)) (F_is_tree : Cal P w K mg base CX0 k "is_tree" (liftP K T sp_is_tree)) (W_ulaw_word : ∀ X : Cx, X.mg = mg → X.K = K → WordDef X "_law_word" w_D w_1 w_3) (hga : mg "_law_is_refused" = some (.ref (He.ga K "_law_is_refused"))) (TB : TabB base mg (He.codeOf K ("_law_is_refused", none)) P_T) (hmT : (P_T, ((envOfC "_law_is_refused" (defScope s_ulaw_is_refused) 0 0 .none).qual ++ ("<lambda>" : Str))) ∈ T) (hu : ∀ p ∈ T, p.1 = P_T → p.2 = ((envOfC "_law_is_refused" (defScope s_ulaw_is_refused) 0 0 .none).qual ++ ("<lambda>" : Str))) (hlen : ∀ as Q R, sp as Q R → as.length = 1) (law : ∀ as Q0 R0, sp as Q0 R0 → db_ulaw_is_refused sp_nodes_many sp_deep sp_signs_in sp_paths_of sp_mirrored sp_tree_text sp_lines_of sp_is_tree  w_D w_1 w_3 { nx := fun _ => Q0 (.val .none), rt := fun g _ => g ≠ .unk ∧ Q0 g } (startG 2 as)) :
    Cal P w K mg base CX0 (k + 3) "_law_is_refused" (liftP K T sp) := by
  have sc := sc_ulaw_is_refused
  have hj : k ≤ k + 2 := by omega
  exact D.mkPc hga sc _ hlen (fun f A outer s H E hr as Q0 R0 h => ⟨_, _, (by exact (ss_cons (s_set 1 sc.nd (e_lst (as_cons (e_lam (W_ulaw_word _ rfl rfl) (by rfl) TB rfl hmT hu hr (fun A outer s H E f c' hr2 tk => (k_cX F_nodes_many tk hr2 (as_cons (e_var 0) as_nil) (Nat.le_refl k)))) as_nil)))
    (ss_cons (s_expr (k_app K 1 (e_lam (W_ulaw_word _ rfl rfl) (by rfl) TB rfl hmT hu hr (fun A outer s H E f c' hr2 tk => (k_cX F_deep tk hr2 (as_cons (e_var 0) as_nil) (Nat.le_refl k))))))
    (ss_cons (s_expr (k_app K 1 (e_lam (W_ulaw_word _ rfl rfl) (by rfl) TB rfl hmT hu hr (fun A outer s H E f c' hr2 tk => (k_cX F_signs_in tk hr2 (as_cons (e_var 0) as_nil) (Nat.le_refl k))))))
    (ss_cons (s_expr (k_app K 1 (e_lam (W_ulaw_word _ rfl rfl) (by rfl) TB rfl hmT hu hr (fun A outer s H E f c' hr2 tk => (k_cX F_paths_of tk hr2 (as_cons (e_var 0) as_nil) (Nat.le_refl k))))))
    (ss_cons (s_expr (k_app K 1 (e_lam (W_ulaw_word _ rfl rfl) (by rfl) TB rfl hmT hu hr (fun A outer s H E f c' hr2 tk => (k_cX F_mirrored tk hr2 (as_cons (e_var 0) as_nil) (Nat.le_refl k))))))
    (ss_cons (s_expr (k_app K 1 (e_lam (W_ulaw_word _ rfl rfl) (by rfl) TB rfl hmT hu hr (fun A outer s H E f c' hr2 tk => (k_cX F_tree_text tk hr2 (as_cons (e_var 0) as_nil) (Nat.le_refl k))))))
    (ss_cons (s_expr (k_app K 1 (e_lam (W_ulaw_word _ rfl rfl) (by rfl) TB rfl hmT hu hr (fun A outer s H E f c' hr2 tk => (k_cX F_lines_of tk hr2 (as_cons (e_var 0) as_nil) (Nat.le_refl k))))))
    (ss_one (s_ret (e_andV (e_cmp c_isB (k_c F_is_tree hr (as_cons (e_var 0) as_nil) hj) (e_bl)) (e_one (e_cmp (k_eq K hr.units) (e_var 1) (e_bin (k_mul K) (e_lst (as_cons (e_str) as_nil)) (e_int))))))))))))))), law as Q0 R0 h⟩)
theorem l_ulaw_is_refused {c : Addr} : ∀ as Q0 R0, spRefused as Q0 R0 → db_ulaw_is_refused (spBad c) (spBad c) (spBad c) (spBad c) (spBad c) (spBad c) (spBad c) spIsTree c "tree" "told" { nx := fun _ => Q0 (.val .none), rt := fun g _ => g ≠ .unk ∧ Q0 g } (startG 2 as) := by
  rintro _ Q0 R0 ⟨d, rfl, e, h⟩
  have hl : ∀ (Γ : Gs) (Q : GK) (R : GX), Γ[0]? = some (.val d) → Q (.val (.str "tree")) Γ → dLam c "tree" "told" (dCallX (spBad c) (dCons (dVar 0) dNil)) Γ Q R := fun Γ Q R h0 hq => by
    have h1 : (Γ.map blind)[0]? = some (.val d) := by rw [List.getElem?_map, h0]; rfl
    unfold dLam dCallX dCons dVar
    rw [h1]
    exact ⟨d, rfl, e, rfl, hq⟩
  have seqP : ∀ {a rest : DS} {D : DEnd} {Γ : Gs} (P : Gs → Prop), (∀ K : Gs → Prop, (∀ Γ', P Γ' → K Γ') → a { D with nx := K } Γ) → (∀ Γ', P Γ' → rest D Γ') → dSeq a rest D Γ := fun P h1 h2 => h1 _ h2
  have one : ∀ (n : Nat) (D : DEnd) (K : Gs → Prop), n < 100 → (∀ Γ', Γ' = [.val d, .own false (List.replicate (n + 1) (.str "tree"))] → K Γ') → dDrop (dApp 1 (dLam c "tree" "told" (dCallX (spBad c) (dCons (dVar 0) dNil)))) { D with nx := K } [.val d, .own false (List.replicate n (.str "tree"))] := fun n D K hn hK => by
    simp only [dSeq, dRet, dRetN, dNext, dAndV, dOrV, dNotV, dIsi, dVar, dC, dUn, dOp, dCB, dCons, dNil, dTup, dLst, dTest, dAnd, dOr, dNot, dIf, dIfS, dAsg, dPar, dDrop, dAug, dAsgT, dgName, dgNil, dgCons, dgTup, dCall, dCallX, fInT, fIxT, dSl, dPart, dNoPart, dLenV, dIxV, dSlV, dApp, dExt, dPop, dSetIx, ownQ, putO, dYes, dSeqI, dEnum, dRng1, wipeG, startG, List.map_cons, List.map_nil, List.length_cons, List.length_nil, List.replicate, List.cons_append, List.nil_append, List.getElem?_cons_zero, List.getElem?_cons_succ, List.set_cons_zero, List.set_cons_succ, Nat.reduceAdd, Nat.reduceSub, Nat.zero_add, ne_eq, reduceCtorEq, not_false_eq_true, true_and, if_true, if_false, Bool.false_eq_true, decide_eq_true_eq, decide_true, decide_false, Bool.not_true, Bool.not_false, ite_true, ite_false, reduceIte, Option.some.injEq, exists_eq_left', List.drop_succ_cons, List.drop_zero, ↓y_wdv, ↓y_wdo, ↓y_wds0, ↓y_wds1, ↓y_okv, ↓y_oko, ↓y_addi, ↓y_adds, ↓y_addt, ↓y_addl, ↓y_muli, ↓y_mull, ↓y_eqi, ↓y_eqs, ↓y_nei, ↓y_nes, ↓y_eqt, ↓y_eql, ↓y_lti, ↓y_fi, ↓y_fi0, ↓y_isb, ↓y_ixt, ↓y_ixl, ↓y_lent, ↓y_lenl, ↓y_int, ↓y_tupl, ↓y_tupt, ↓y_lstt, ↓y_lstl, ↓y_slt, ↓y_sll, ↓y_repr, ↓y_at0, ↓y_at1, ↓y_at2, ↓y_at3, ↓y_at4, ↓y_st1, ↓y_st2, ↓y_st3, ↓y_st4, ↓y_exd, atI_0, atI_1, atI_2, atI_3, atI_4, cut_drop1]
    refine hl _ _ _ rfl ?_
    simp only [List.length_replicate, dSeq, dRet, dRetN, dNext, dAndV, dOrV, dNotV, dIsi, dVar, dC, dUn, dOp, dCB, dCons, dNil, dTup, dLst, dTest, dAnd, dOr, dNot, dIf, dIfS, dAsg, dPar, dDrop, dAug, dAsgT, dgName, dgNil, dgCons, dgTup, dCall, dCallX, fInT, fIxT, dSl, dPart, dNoPart, dLenV, dIxV, dSlV, dApp, dExt, dPop, dSetIx, ownQ, putO, dYes, dSeqI, dEnum, dRng1, wipeG, startG, List.map_cons, List.map_nil, List.length_cons, List.length_nil, List.replicate, List.cons_append, List.nil_append, List.getElem?_cons_zero, List.getElem?_cons_succ, List.set_cons_zero, List.set_cons_succ, Nat.reduceAdd, Nat.reduceSub, Nat.zero_add, ne_eq, reduceCtorEq, not_false_eq_true, true_and, if_true, if_false, Bool.false_eq_true, decide_eq_true_eq, decide_true, decide_false, Bool.not_true, Bool.not_false, ite_true, ite_false, reduceIte, Option.some.injEq, exists_eq_left', List.drop_succ_cons, List.drop_zero, ↓y_wdv, ↓y_wdo, ↓y_wds0, ↓y_wds1, ↓y_okv, ↓y_oko, ↓y_addi, ↓y_adds, ↓y_addt, ↓y_addl, ↓y_muli, ↓y_mull, ↓y_eqi, ↓y_eqs, ↓y_nei, ↓y_nes, ↓y_eqt, ↓y_eql, ↓y_lti, ↓y_fi, ↓y_fi0, ↓y_isb, ↓y_ixt, ↓y_ixl, ↓y_lent, ↓y_lenl, ↓y_int, ↓y_tupl, ↓y_tupt, ↓y_lstt, ↓y_lstl, ↓y_slt, ↓y_sll, ↓y_repr, ↓y_at0, ↓y_at1, ↓y_at2, ↓y_at3, ↓y_at4, ↓y_st1, ↓y_st2, ↓y_st3, ↓y_st4, ↓y_exd, atI_0, atI_1, atI_2, atI_3, atI_4, cut_drop1]
    refine ⟨Nat.lt_of_lt_of_le (by omega : n < 2000) (small (Nat.le_refl _)), hK _ ?_⟩
    rw [List.replicate_succ']
  unfold db_ulaw_is_refused
  refine seqP (fun Γ => Γ = [.val d, .own false (List.replicate 1 (.str "tree"))]) (fun K hK => ?_) ?_
  · simp only [dSeq, dRet, dRetN, dNext, dAndV, dOrV, dNotV, dIsi, dVar, dC, dUn, dOp, dCB, dCons, dNil, dTup, dLst, dTest, dAnd, dOr, dNot, dIf, dIfS, dAsg, dPar, dDrop, dAug, dAsgT, dgName, dgNil, dgCons, dgTup, dCall, dCallX, fInT, fIxT, dSl, dPart, dNoPart, dLenV, dIxV, dSlV, dApp, dExt, dPop, dSetIx, ownQ, putO, dYes, dSeqI, dEnum, dRng1, wipeG, startG, List.map_cons, List.map_nil, List.length_cons, List.length_nil, List.replicate, List.cons_append, List.nil_append, List.getElem?_cons_zero, List.getElem?_cons_succ, List.set_cons_zero, List.set_cons_succ, Nat.reduceAdd, Nat.reduceSub, Nat.zero_add, ne_eq, reduceCtorEq, not_false_eq_true, true_and, if_true, if_false, Bool.false_eq_true, decide_eq_true_eq, decide_true, decide_false, Bool.not_true, Bool.not_false, ite_true, ite_false, reduceIte, Option.some.injEq, exists_eq_left', List.drop_succ_cons, List.drop_zero, ↓y_wdv, ↓y_wdo, ↓y_wds0, ↓y_wds1, ↓y_okv, ↓y_oko, ↓y_addi, ↓y_adds, ↓y_addt, ↓y_addl, ↓y_muli, ↓y_mull, ↓y_eqi, ↓y_eqs, ↓y_nei, ↓y_nes, ↓y_eqt, ↓y_eql, ↓y_lti, ↓y_fi, ↓y_fi0, ↓y_isb, ↓y_ixt, ↓y_ixl, ↓y_lent, ↓y_lenl, ↓y_int, ↓y_tupl, ↓y_tupt, ↓y_lstt, ↓y_lstl, ↓y_slt, ↓y_sll, ↓y_repr, ↓y_at0, ↓y_at1, ↓y_at2, ↓y_at3, ↓y_at4, ↓y_st1, ↓y_st2, ↓y_st3, ↓y_st4, ↓y_exd, atI_0, atI_1, atI_2, atI_3, atI_4, cut_drop1]
    refine hl _ _ _ rfl ?_
    simp only [dSeq, dRet, dRetN, dNext, dAndV, dOrV, dNotV, dIsi, dVar, dC, dUn, dOp, dCB, dCons, dNil, dTup, dLst, dTest, dAnd, dOr, dNot, dIf, dIfS, dAsg, dPar, dDrop, dAug, dAsgT, dgName, dgNil, dgCons, dgTup, dCall, dCallX, fInT, fIxT, dSl, dPart, dNoPart, dLenV, dIxV, dSlV, dApp, dExt, dPop, dSetIx, ownQ, putO, dYes, dSeqI, dEnum, dRng1, wipeG, startG, List.map_cons, List.map_nil, List.length_cons, List.length_nil, List.replicate, List.cons_append, List.nil_append, List.getElem?_cons_zero, List.getElem?_cons_succ, List.set_cons_zero, List.set_cons_succ, Nat.reduceAdd, Nat.reduceSub, Nat.zero_add, ne_eq, reduceCtorEq, not_false_eq_true, true_and, if_true, if_false, Bool.false_eq_true, decide_eq_true_eq, decide_true, decide_false, Bool.not_true, Bool.not_false, ite_true, ite_false, reduceIte, Option.some.injEq, exists_eq_left', List.drop_succ_cons, List.drop_zero, ↓y_wdv, ↓y_wdo, ↓y_wds0, ↓y_wds1, ↓y_okv, ↓y_oko, ↓y_addi, ↓y_adds, ↓y_addt, ↓y_addl, ↓y_muli, ↓y_mull, ↓y_eqi, ↓y_eqs, ↓y_nei, ↓y_nes, ↓y_eqt, ↓y_eql, ↓y_lti, ↓y_fi, ↓y_fi0, ↓y_isb, ↓y_ixt, ↓y_ixl, ↓y_lent, ↓y_lenl, ↓y_int, ↓y_tupl, ↓y_tupt, ↓y_lstt, ↓y_lstl, ↓y_slt, ↓y_sll, ↓y_repr, ↓y_at0, ↓y_at1, ↓y_at2, ↓y_at3, ↓y_at4, ↓y_st1, ↓y_st2, ↓y_st3, ↓y_st4, ↓y_exd, atI_0, atI_1, atI_2, atI_3, atI_4, cut_drop1]
    exact ⟨small (by omega), hK _ rfl⟩
  rintro Γ rfl
  refine seqP (fun Γ => Γ = [.val d, .own false (List.replicate 2 (.str "tree"))]) (fun K hK => one 1 _ K (by omega) hK) ?_
  rintro Γ rfl
  refine seqP (fun Γ => Γ = [.val d, .own false (List.replicate 3 (.str "tree"))]) (fun K hK => one 2 _ K (by omega) hK) ?_
  rintro Γ rfl
  refine seqP (fun Γ => Γ = [.val d, .own false (List.replicate 4 (.str "tree"))]) (fun K hK => one 3 _ K (by omega) hK) ?_
  rintro Γ rfl
  refine seqP (fun Γ => Γ = [.val d, .own false (List.replicate 5 (.str "tree"))]) (fun K hK => one 4 _ K (by omega) hK) ?_
  rintro Γ rfl
  refine seqP (fun Γ => Γ = [.val d, .own false (List.replicate 6 (.str "tree"))]) (fun K hK => one 5 _ K (by omega) hK) ?_
  rintro Γ rfl
  refine seqP (fun Γ => Γ = [.val d, .own false (List.replicate 7 (.str "tree"))]) (fun K hK => one 6 _ K (by omega) hK) ?_
  rintro Γ rfl
  simp only [dSeq, dRet, dRetN, dNext, dAndV, dOrV, dNotV, dIsi, dVar, dC, dUn, dOp, dCB, dCons, dNil, dTup, dLst, dTest, dAnd, dOr, dNot, dIf, dIfS, dAsg, dPar, dDrop, dAug, dAsgT, dgName, dgNil, dgCons, dgTup, dCall, dCallX, fInT, fIxT, dSl, dPart, dNoPart, dLenV, dIxV, dSlV, dApp, dExt, dPop, dSetIx, ownQ, putO, dYes, dSeqI, dEnum, dRng1, wipeG, startG, List.map_cons, List.map_nil, List.length_cons, List.length_nil, List.replicate, List.cons_append, List.nil_append, List.getElem?_cons_zero, List.getElem?_cons_succ, List.set_cons_zero, List.set_cons_succ, Nat.reduceAdd, Nat.reduceSub, Nat.zero_add, ne_eq, reduceCtorEq, not_false_eq_true, true_and, if_true, if_false, Bool.false_eq_true, decide_eq_true_eq, decide_true, decide_false, Bool.not_true, Bool.not_false, ite_true, ite_false, reduceIte, Option.some.injEq, exists_eq_left', List.drop_succ_cons, List.drop_zero, ↓y_wdv, ↓y_wdo, ↓y_wds0, ↓y_wds1, ↓y_okv, ↓y_oko, ↓y_addi, ↓y_adds, ↓y_addt, ↓y_addl, ↓y_muli, ↓y_mull, ↓y_eqi, ↓y_eqs, ↓y_nei, ↓y_nes, ↓y_eqt, ↓y_eql, ↓y_lti, ↓y_fi, ↓y_fi0, ↓y_isb, ↓y_ixt, ↓y_ixl, ↓y_lent, ↓y_lenl, ↓y_int, ↓y_tupl, ↓y_tupt, ↓y_lstt, ↓y_lstl, ↓y_slt, ↓y_sll, ↓y_repr, ↓y_at0, ↓y_at1, ↓y_at2, ↓y_at3, ↓y_at4, ↓y_st1, ↓y_st2, ↓y_st3, ↓y_st4, ↓y_exd, atI_0, atI_1, atI_2, atI_3, atI_4, cut_drop1]
  refine ⟨d, rfl, ?_⟩
  rw [e]
  simp only [dSeq, dRet, dRetN, dNext, dAndV, dOrV, dNotV, dIsi, dVar, dC, dUn, dOp, dCB, dCons, dNil, dTup, dLst, dTest, dAnd, dOr, dNot, dIf, dIfS, dAsg, dPar, dDrop, dAug, dAsgT, dgName, dgNil, dgCons, dgTup, dCall, dCallX, fInT, fIxT, dSl, dPart, dNoPart, dLenV, dIxV, dSlV, dApp, dExt, dPop, dSetIx, ownQ, putO, dYes, dSeqI, dEnum, dRng1, wipeG, startG, List.map_cons, List.map_nil, List.length_cons, List.length_nil, List.replicate, List.cons_append, List.nil_append, List.getElem?_cons_zero, List.getElem?_cons_succ, List.set_cons_zero, List.set_cons_succ, Nat.reduceAdd, Nat.reduceSub, Nat.zero_add, ne_eq, reduceCtorEq, not_false_eq_true, true_and, if_true, if_false, Bool.false_eq_true, decide_eq_true_eq, decide_true, decide_false, Bool.not_true, Bool.not_false, ite_true, ite_false, reduceIte, Option.some.injEq, exists_eq_left', List.drop_succ_cons, List.drop_zero, ↓y_wdv, ↓y_wdo, ↓y_wds0, ↓y_wds1, ↓y_okv, ↓y_oko, ↓y_addi, ↓y_adds, ↓y_addt, ↓y_addl, ↓y_muli, ↓y_mull, ↓y_eqi, ↓y_eqs, ↓y_nei, ↓y_nes, ↓y_eqt, ↓y_eql, ↓y_lti, ↓y_fi, ↓y_fi0, ↓y_isb, ↓y_ixt, ↓y_ixl, ↓y_lent, ↓y_lenl, ↓y_int, ↓y_tupl, ↓y_tupt, ↓y_lstt, ↓y_lstl, ↓y_slt, ↓y_sll, ↓y_repr, ↓y_at0, ↓y_at1, ↓y_at2, ↓y_at3, ↓y_at4, ↓y_st1, ↓y_st2, ↓y_st3, ↓y_st4, ↓y_exd, atI_0, atI_1, atI_2, atI_3, atI_4, cut_drop1]
  have ev : PyData.eqv (.list [.str "tree", .str "tree", .str "tree", .str "tree", .str "tree", .str "tree", .str "tree"]) (.list (List.replicate (7 : Int).toNat [PyData.str "tree"]).flatten) = true := by decide +kernel
  refine ⟨small (by omega), by decide, by decide, small (by decide), by decide +kernel, by decide +kernel, ?_⟩
  rw [ev]
  exact h
end K00

namespace K00
open PySem PySem.Spec PyProof.Rows L2 LamX DL
def db_ulaw_hand   : DS := (dSeq (dAsg 1 (dLc (dSeqI (dSlF 0 dNoPart (dPart (dC (.int 63))))) (dgName 2) dYes (dOp (fI (fun _ j => 0 < j) fun i j => .int (i % j)) (dCB fInt (dCons (dCB fAbs (dCons (dCB fInt (dCons (dVar 2) dNil)) dNil)) dNil)) (dOp (fI CPow fun i j => .int (i ^ j.toNat)) (dC (.int 10)) (dC (.int 60)))) [2]))
    (dRet (dLst (dCons (dVar 1) (dCons (dC (.int 0)) (dCons (dC (.int 0)) (dCons (dOp fAdd (dC (.int 8401)) (dOp fMul (dC (.int 7)) (dCB fLen (dCons (dVar 1) dNil)))) (dCons (dC (.int 0)) dNil))))))))
theorem c_ulaw_hand {P : Program} {w : World} {K : PySem.W.Frag} {mg : Str → Option Value} {base : Heap} {T : List (Addr × Str)} {k : Nat} {sp : SpF} (D : DefAt K mg "_law_hand" s_ulaw_hand ["script"]) (B : Bi mg builtL) (law : ∀ a ns Q0, sp ns Q0 → db_ulaw_hand   { nx := fun _ => Q0 (.val .none), rt := fun g _ => g ≠ .unk ∧ Q0 g } (.frz a (ns.map V.int) :: List.replicate 2 .unk)) :
    Cal P w K mg base CX0 (k + 1) "_law_hand" (liftF K T sp) := by
  have sc := sc_ulaw_hand
  have hj : k ≤ k := by omega
  exact D.mkF sc _ (fun f cdv A outer s H E hr a ns Q0 h => ⟨_, _, (by exact (ss_cons (s_setLc 1 rfl sc.nd (k_seq K (k_slF K 0 o_none (o_some (e_int)))) (own := [("cell", 2)]) (blkOk_by rfl) (tgin_name (by decide)) (fun _ _ _ _ _ => (g_name 2 sc.nd)) (fun _ _ _ _ _ => ts_nil) (fun _ _ _ _ _ => (e_bin b_mod (k_ct (q_int) PyProof.Rows.boot_int (B "int" (by decide)) (as_cons (k_cb (q_abs) PyProof.Rows.boot_abs (B "abs" (by decide)) (as_cons (k_ct (q_int) PyProof.Rows.boot_int (B "int" (by decide)) (as_cons (e_var 2) as_nil)) as_nil)) as_nil)) (e_bin b_pow (e_int) (e_int)))) rfl)
    (ss_one (s_ret (e_lst (as_cons (e_var 1) (as_cons (e_int) (as_cons (e_int) (as_cons (e_bin (k_add K) (e_int) (e_bin (k_mul K) (e_int) (k_cb (q_len K) PySem.boot_len (B "len" (by decide)) (as_cons (e_var 1) as_nil)))) (as_cons (e_int) as_nil)))))))))), law a ns Q0 h⟩)
theorem l_ulaw_hand : ∀ (a : Addr) (ns : List Int) (Q0 : G → Prop), spHand ns Q0 → db_ulaw_hand { nx := fun _ => Q0 (.val .none), rt := fun g _ => g ≠ .unk ∧ Q0 g } (.frz a (ns.map V.int) :: List.replicate 2 .unk) := by
  rintro a ns Q0 ⟨h63, h⟩
  simp only [db_ulaw_hand, dSeq, dRet, dRetN, dNext, dAndV, dOrV, dNotV, dIsi, dVar, dC, dUn, dOp, dCB, dCons, dNil, dTup, dLst, dTest, dAnd, dOr, dNot, dIf, dIfS, dAsg, dPar, dDrop, dAug, dAsgT, dgName, dgNil, dgCons, dgTup, dCall, dCallX, fInT, fIxT, dSl, dPart, dNoPart, dLenV, dIxV, dSlV, dApp, dExt, dPop, dSetIx, ownQ, putO, dYes, dSeqI, dEnum, dRng1, wipeG, startG, List.map_cons, List.map_nil, List.length_cons, List.length_nil, List.replicate, List.cons_append, List.nil_append, List.getElem?_cons_zero, List.getElem?_cons_succ, List.set_cons_zero, List.set_cons_succ, Nat.reduceAdd, Nat.reduceSub, Nat.zero_add, ne_eq, reduceCtorEq, not_false_eq_true, true_and, if_true, if_false, Bool.false_eq_true, decide_eq_true_eq, decide_true, decide_false, Bool.not_true, Bool.not_false, ite_true, ite_false, reduceIte, Option.some.injEq, exists_eq_left', List.drop_succ_cons, List.drop_zero, ↓y_wdv, ↓y_wdo, ↓y_wds0, ↓y_wds1, ↓y_okv, ↓y_oko, ↓y_addi, ↓y_adds, ↓y_addt, ↓y_addl, ↓y_muli, ↓y_mull, ↓y_eqi, ↓y_eqs, ↓y_nei, ↓y_nes, ↓y_eqt, ↓y_eql, ↓y_lti, ↓y_fi, ↓y_fi0, ↓y_isb, ↓y_ixt, ↓y_ixl, ↓y_lent, ↓y_lenl, ↓y_int, ↓y_tupl, ↓y_tupt, ↓y_lstt, ↓y_lstl, ↓y_slt, ↓y_sll, ↓y_repr, ↓y_at0, ↓y_at1, ↓y_at2, ↓y_at3, ↓y_at4, ↓y_st1, ↓y_st2, ↓y_st3, ↓y_st4, ↓y_exd, atI_0, atI_1, atI_2, atI_3, atI_4, cut_drop1]
  have hsl : ∀ (Q' : List PyData → Gs → Prop) (R : GX), Q' ((ns.take 63).map PyData.int) [.frz a (ns.map V.int), .unk, .unk] → dSeqI (dSlF 0 dNoPart (dPart (dC (.int 63)))) [.frz a (ns.map V.int), .unk, .unk] Q' R := fun Q' R hq => by
    have e : DL.cutD (ns.map PyData.int) none (some 63) = (ns.take 63).map PyData.int := by
      rw [show DL.cutD (ns.map PyData.int) none (some 63) = (ns.map PyData.int).take 63 from DL.cut_take (k := 63), List.map_take]
    refine ⟨ns, rfl, ?_⟩
    show Q' (DL.cutD (ns.map PyData.int) none (some 63)) _
    rw [e]
    exact hq
  refine lc_map (items := (ns.take 63).map PyData.int) (f := fun y => match y with | .int i => .int ((if i < 0 then -i else i) % (10 : Int) ^ (60 : Int).toNat) | d => d) (fun Q' hq => hsl _ _ hq) rfl (small (by simp; omega)) (fun y hy Q' hq => ?_) ?_
  · obtain ⟨i, _, rfl⟩ := List.mem_map.mp hy
    simp only [fAbs, dSeq, dRet, dRetN, dNext, dAndV, dOrV, dNotV, dIsi, dVar, dC, dUn, dOp, dCB, dCons, dNil, dTup, dLst, dTest, dAnd, dOr, dNot, dIf, dIfS, dAsg, dPar, dDrop, dAug, dAsgT, dgName, dgNil, dgCons, dgTup, dCall, dCallX, fInT, fIxT, dSl, dPart, dNoPart, dLenV, dIxV, dSlV, dApp, dExt, dPop, dSetIx, ownQ, putO, dYes, dSeqI, dEnum, dRng1, wipeG, startG, List.map_cons, List.map_nil, List.length_cons, List.length_nil, List.replicate, List.cons_append, List.nil_append, List.getElem?_cons_zero, List.getElem?_cons_succ, List.set_cons_zero, List.set_cons_succ, Nat.reduceAdd, Nat.reduceSub, Nat.zero_add, ne_eq, reduceCtorEq, not_false_eq_true, true_and, if_true, if_false, Bool.false_eq_true, decide_eq_true_eq, decide_true, decide_false, Bool.not_true, Bool.not_false, ite_true, ite_false, reduceIte, Option.some.injEq, exists_eq_left', List.drop_succ_cons, List.drop_zero, ↓y_wdv, ↓y_wdo, ↓y_wds0, ↓y_wds1, ↓y_okv, ↓y_oko, ↓y_addi, ↓y_adds, ↓y_addt, ↓y_addl, ↓y_muli, ↓y_mull, ↓y_eqi, ↓y_eqs, ↓y_nei, ↓y_nes, ↓y_eqt, ↓y_eql, ↓y_lti, ↓y_fi, ↓y_fi0, ↓y_isb, ↓y_ixt, ↓y_ixl, ↓y_lent, ↓y_lenl, ↓y_int, ↓y_tupl, ↓y_tupt, ↓y_lstt, ↓y_lstl, ↓y_slt, ↓y_sll, ↓y_repr, ↓y_at0, ↓y_at1, ↓y_at2, ↓y_at3, ↓y_at4, ↓y_st1, ↓y_st2, ↓y_st3, ↓y_st4, ↓y_exd, atI_0, atI_1, atI_2, atI_3, atI_4, cut_drop1]
    refine ⟨⟨by decide, by decide, by decide⟩, by decide, ?_⟩
    exact hq _ (by rfl)
  · simp only [dSeq, dRet, dRetN, dNext, dAndV, dOrV, dNotV, dIsi, dVar, dC, dUn, dOp, dCB, dCons, dNil, dTup, dLst, dTest, dAnd, dOr, dNot, dIf, dIfS, dAsg, dPar, dDrop, dAug, dAsgT, dgName, dgNil, dgCons, dgTup, dCall, dCallX, fInT, fIxT, dSl, dPart, dNoPart, dLenV, dIxV, dSlV, dApp, dExt, dPop, dSetIx, ownQ, putO, dYes, dSeqI, dEnum, dRng1, wipeG, startG, List.map_cons, List.map_nil, List.length_cons, List.length_nil, List.replicate, List.cons_append, List.nil_append, List.getElem?_cons_zero, List.getElem?_cons_succ, List.set_cons_zero, List.set_cons_succ, Nat.reduceAdd, Nat.reduceSub, Nat.zero_add, ne_eq, reduceCtorEq, not_false_eq_true, true_and, if_true, if_false, Bool.false_eq_true, decide_eq_true_eq, decide_true, decide_false, Bool.not_true, Bool.not_false, ite_true, ite_false, reduceIte, Option.some.injEq, exists_eq_left', List.drop_succ_cons, List.drop_zero, ↓y_wdv, ↓y_wdo, ↓y_wds0, ↓y_wds1, ↓y_okv, ↓y_oko, ↓y_addi, ↓y_adds, ↓y_addt, ↓y_addl, ↓y_muli, ↓y_mull, ↓y_eqi, ↓y_eqs, ↓y_nei, ↓y_nes, ↓y_eqt, ↓y_eql, ↓y_lti, ↓y_fi, ↓y_fi0, ↓y_isb, ↓y_ixt, ↓y_ixl, ↓y_lent, ↓y_lenl, ↓y_int, ↓y_tupl, ↓y_tupt, ↓y_lstt, ↓y_lstl, ↓y_slt, ↓y_sll, ↓y_repr, ↓y_at0, ↓y_at1, ↓y_at2, ↓y_at3, ↓y_at4, ↓y_st1, ↓y_st2, ↓y_st3, ↓y_st4, ↓y_exd, atI_0, atI_1, atI_2, atI_3, atI_4, cut_drop1]
    refine ⟨.inl ⟨by decide, by decide⟩, small (by simp), ?_⟩
    have key : ∀ (l : List PyData) (cs : List Int) (r : Int), l = cs.map .int → HandOk [.list l, .int 0, .int 0, .int r, .int 0] := fun l cs r e => ⟨cs, 0, 0, r, 0, by rw [e], Int.le_refl _, Int.le_refl _⟩
    exact h _ (key _ ((ns.take 63).map fun i => (if i < 0 then -i else i) % (10 : Int) ^ (60 : Int).toNat) _ (by rw [List.map_map, List.map_map]; rfl))
end K00

namespace K00
open PySem PySem.Spec PyProof.Rows L2 LamX DL
def db_law (sp_ulaw_hand : SpF) (sp_ulaw_tree : SpH) (sp_ulaw_draw : SpH) (sp_ulaw_chain : SpH) (sp_ulaw_wide : SpH) (sp_ulaw_is_right : SpP) (sp_ulaw_is_refused : SpP) (sp_ulaw_no_tree : SpH) (sp_is_tree : SpP)  : DS := (dSeq (dAsg 1 (dCallF sp_ulaw_hand 0))
    (dSeq (dFor (dRng1 (dCons (dC (.int 4)) dNil)) (dgName 2)
    (dSeq (dAsg 3 (dCallH sp_ulaw_tree 1 (dCons (dOp fAdd (dC (.int 1)) (dCallH sp_ulaw_draw 1 (dCons (dC (.int 5)) dNil))) dNil)))
    (dSeq (dPar 6 7 (dCons (dOp fAdd (dC (.int 1)) (dCallH sp_ulaw_draw 1 (dCons (dC (.int 60)) dNil))) (dCons (dOp fAdd (dC (.int 1)) (dCallH sp_ulaw_draw 1 (dCons (dC (.int 39)) dNil))) dNil)))
    (dSeq (dIfS (dNot (dTest (dCB fAll (dCons (dLc (dSeqI (dTup (dCons (dVar 3) (dCons (dCallH sp_ulaw_wide 1 (dCons (dVar 6) dNil)) (dCons (dCallH sp_ulaw_chain 1 (dCons (dVar 7) dNil)) dNil))))) (dgName 8) dYes (dCall sp_ulaw_is_right (dCons (dVar 8) dNil)) [8]) dNil))))
    (dRet (dC (.bool false)))
    dNext)
    (dIfS (dOr (dNot (dTest (dCall sp_ulaw_is_refused (dCons (dCallH sp_ulaw_no_tree 1 (dCons (dVar 3) dNil)) dNil)))) (dNot (dTest (dCall sp_ulaw_is_refused (dCons (dCallH sp_ulaw_no_tree 1 (dCons (dTup (dCons (dC (.str "a")) dNil)) dNil)) dNil)))))
    (dRet (dC (.bool false)))
    dNext)))))
    (dSeq (dPar 4 5 (dCons (dCallH sp_ulaw_wide 1 (dCons (dC (.int 300)) dNil)) (dCons (dCallH sp_ulaw_chain 1 (dCons (dC (.int 40)) dNil)) dNil)))
    (dSeq (dIfS (dOr (dNot (dTest (dCall sp_ulaw_is_right (dCons (dVar 4) dNil)))) (dNot (dTest (dCall sp_ulaw_is_right (dCons (dVar 5) dNil)))))
    (dRet (dC (.bool false)))
    dNext)
    (dRet (dAndV (dCall sp_ulaw_is_refused (dCons (dTup (dCons (dC (.str "s")) (dCons (dVar 4) dNil))) dNil)) (dAndV (dCall sp_ulaw_is_refused (dCons (dTup (dCons (dC (.str "s")) (dCons (dVar 5) dNil))) dNil)) (dCall sp_is_tree (dCons (dTup (dCons (dC (.str "h")) (dCons (dTup (dCons (dC (.str "a")) dNil)) (dCons (dTup (dCons (dC (.str "b")) dNil)) (dCons (dTup (dCons (dC (.str "c")) dNil)) dNil))))) dNil)))))))))
theorem c_law {P : Program} {w : World} {K : PySem.W.Frag} {mg : Str → Option Value} {base : Heap} {T : List (Addr × Str)} {k : Nat} {sp_ulaw_hand : SpF} {sp_ulaw_tree : SpH} {sp_ulaw_draw : SpH} {sp_ulaw_chain : SpH} {sp_ulaw_wide : SpH} {sp_ulaw_is_right : SpP} {sp_ulaw_is_refused : SpP} {sp_ulaw_no_tree : SpH} {sp_is_tree : SpP} {sp : SpF} {f : Addr} {fd : FuncData} (F : Fun K "law" "law" s_law f fd) (B : Bi mg builtL) (F_ulaw_hand : Cal P w K mg base CX0 k "_law_hand" (liftF K T sp_ulaw_hand)) (F_ulaw_tree : Cal P w K mg base CX0 k "_law_tree" (liftH K T sp_ulaw_tree)) (F_ulaw_draw : Cal P w K mg base CX0 k "_law_draw" (liftH K T sp_ulaw_draw)) (F_ulaw_chain : Cal P w K mg base CX0 k "_law_chain" (liftH K T sp_ulaw_chain)) (F_ulaw_wide : Cal P w K mg base CX0 k "_law_wide" (liftH K T sp_ulaw_wide)) (F_ulaw_is_right : Cal P w K mg base CX0 k "_law_is_right" (liftP K T sp_ulaw_is_right)) (F_ulaw_is_refused : Cal P w K mg base CX0 k "_law_is_refused" (liftP K T sp_ulaw_is_refused)) (F_ulaw_no_tree : Cal P w K mg base CX0 k "_law_no_tree" (liftH K T sp_ulaw_no_tree)) (F_is_tree : Cal P w K mg base CX0 k "is_tree" (liftP K T sp_is_tree)) (law : ∀ a ns Q0, sp ns Q0 → db_law sp_ulaw_hand sp_ulaw_tree sp_ulaw_draw sp_ulaw_chain sp_ulaw_wide sp_ulaw_is_right sp_ulaw_is_refused sp_ulaw_no_tree sp_is_tree  { nx := fun _ => Q0 (.val .none), rt := fun g _ => g ≠ .unk ∧ Q0 g } (.frz a (ns.map V.int) :: List.replicate 8 .unk)) :
    FnOk P w K mg base CX0 (k + 1) f fd ["script"] (liftF K T sp) := by
  have sc := sc_law
  have hj : k ≤ k := by omega
  exact fnF F sc _ (fun cdv A outer s H E hr a ns Q0 h => ⟨_, _, (by exact (ss_cons (s_set 1 sc.nd (k_cF 0 F_ulaw_hand hr hj))
    (ss_cons (s_for PassesOwn.never rfl (i_rng1 (by rfl) (B "range" (by decide)) (as_cons (e_int) as_nil)) (g_name 2 sc.nd) (ss_cons (s_set 3 sc.nd (k_cH 1 F_ulaw_tree hr (as_cons (e_bin (k_add K) (e_int) (k_cH 1 F_ulaw_draw hr (as_cons (e_int) as_nil) hj)) as_nil) hj))
    (ss_cons (s_par 6 7 rfl sc.nd (as_cons (e_bin (k_add K) (e_int) (k_cH 1 F_ulaw_draw hr (as_cons (e_int) as_nil) hj)) (as_cons (e_bin (k_add K) (e_int) (k_cH 1 F_ulaw_draw hr (as_cons (e_int) as_nil) hj)) as_nil)))
    (ss_cons (s_if (t_not (t_val (k_cb (q_all K) PyProof.Rows.boot_all (B "all" (by decide)) (as_cons (e_lc rfl sc.nd (k_seq K (e_tup (as_cons (e_var 3) (as_cons (k_cH 1 F_ulaw_wide hr (as_cons (e_var 6) as_nil) hj) (as_cons (k_cH 1 F_ulaw_chain hr (as_cons (e_var 7) as_nil) hj) as_nil))))) (own := [("one", 8)]) (blkOk_by rfl) (tgin_name (by decide)) (fun _ _ _ _ _ => (g_name 8 sc.nd)) (fun _ _ _ _ _ => ts_nil) (fun _ _ _ _ _ => (k_c F_ulaw_is_right hr (as_cons (e_var 8) as_nil) hj))) as_nil)))) (ss_one (s_ret (e_bl))) ss_nil)
    (ss_one (s_if (t_bool (w_or (t_not (t_val (k_c F_ulaw_is_refused hr (as_cons (k_cH 1 F_ulaw_no_tree hr (as_cons (e_var 3) as_nil) hj) as_nil) hj))) (w_or1 (t_not (t_val (k_c F_ulaw_is_refused hr (as_cons (k_cH 1 F_ulaw_no_tree hr (as_cons (e_tup (as_cons (e_str) as_nil)) as_nil) hj) as_nil) hj)))))) (ss_one (s_ret (e_bl))) ss_nil))))))
    (ss_cons (s_par 4 5 rfl sc.nd (as_cons (k_cH 1 F_ulaw_wide hr (as_cons (e_int) as_nil) hj) (as_cons (k_cH 1 F_ulaw_chain hr (as_cons (e_int) as_nil) hj) as_nil)))
    (ss_cons (s_if (t_bool (w_or (t_not (t_val (k_c F_ulaw_is_right hr (as_cons (e_var 4) as_nil) hj))) (w_or1 (t_not (t_val (k_c F_ulaw_is_right hr (as_cons (e_var 5) as_nil) hj)))))) (ss_one (s_ret (e_bl))) ss_nil)
    (ss_one (s_ret (e_andV (k_c F_ulaw_is_refused hr (as_cons (e_tup (as_cons (e_str) (as_cons (e_var 4) as_nil))) as_nil) hj) (e_andV (k_c F_ulaw_is_refused hr (as_cons (e_tup (as_cons (e_str) (as_cons (e_var 5) as_nil))) as_nil) hj) (e_one (k_c F_is_tree hr (as_cons (e_tup (as_cons (e_str) (as_cons (e_tup (as_cons (e_str) as_nil)) (as_cons (e_tup (as_cons (e_str) as_nil)) (as_cons (e_tup (as_cons (e_str) as_nil)) as_nil))))) as_nil) hj))))))))))), law a ns Q0 h⟩)
theorem rk_ok : ∀ n : Nat, 1 ≤ n → n ≤ 301 → rk 18 n = true := by
  have key : ∀ n : Fin 302, n.1 = 0 ∨ rk 18 n.1 = true := by decide +kernel
  intro n h1 h2
  rcases key ⟨n, by omega⟩ with h | h
  · simp only [] at h; omega
  · exact h
theorem l_law : ∀ (a : Addr) (ns : List Int) (Q0 : G → Prop), spLawF ns Q0 → db_law spHand (spTree 5) spDraw spChain (spWide 18) spRight spRefused spNo spIsTree { nx := fun _ => Q0 (.val .none), rt := fun g _ => g ≠ .unk ∧ Q0 g } (.frz a (ns.map V.int) :: List.replicate 8 .unk) := by
  rintro a ns Q0 ⟨h63, h⟩
  have tA : IsTr (.tuple [.str "a"]) := .mk (by rfl) (fun p hp => nomatch hp)
  have hwide : ∀ (n : Nat) (e : Int) (hd : List PyData) (Q : G → List PyData → Prop), e = (n : Int) → 1 ≤ n → n ≤ 301 → HandOk hd → (∀ d hd', IsTr d → dp d ≤ 18 → nd d = n → HandOk hd' → Q (.val d) hd') → ∀ R, spWide 18 hd [.int e] Q R := fun n e hd Q he h1 h2 hh hq R => by
    subst he
    exact ⟨n, rfl, rk_ok n h1 h2, h2, hh, hq⟩
  have hchain : ∀ (n : Nat) (e : Int) (hd : List PyData) (Q : G → List PyData → Prop), e = (n : Int) → 1 ≤ n → n ≤ 41 → HandOk hd → (∀ d hd', IsTr d → dp d = n → nd d = n → HandOk hd' → Q (.val d) hd') → ∀ R, spChain hd [.int e] Q R := fun n e hd Q he h1 h2 hh hq R => by
    subst he
    exact ⟨n, rfl, h1, h2, hh, hq⟩
  have hdraw : ∀ (m : Int) (hd : List PyData) (Q : G → List PyData → Prop), 0 < m → m < 1000 → HandOk hd → (∀ r hd', 0 ≤ r → r < m → HandOk hd' → Q (.val (.int r)) hd') → ∀ R, spDraw hd [.int m] Q R := fun m hd Q h1 h2 hh hq R => ⟨m, rfl, h1, by omega, hh, hq⟩
  unfold db_law
  refine seqP (fun Γ => ∃ hd, Γ = [.frz a (ns.map V.int), .own false hd, .unk, .unk, .unk, .unk, .unk, .unk, .unk] ∧ HandOk hd) (fun K hK => ?_) ?_
  · exact ⟨ns, rfl, h63, fun hd hh => hK _ ⟨hd, rfl, hh⟩⟩
  rintro Γ ⟨hd, rfl, hh⟩
  refine seqP (fun Γ => ∃ hd g2 g3 g4 g5 g6 g7, Γ = [.frz a (ns.map V.int), .own false hd, g2, g3, g4, g5, g6, g7, .unk] ∧ HandOk hd) (fun K hK => ?_) ?_
  · have hdi : ∀ (Q' : List PyData → Gs → Prop) (R : GX), Q' (rngD 0 4) [.frz a (ns.map V.int), .own false hd, .unk, .unk, .unk, .unk, .unk, .unk, .unk] → dRng1 (dCons (dC (.int 4)) dNil) [.frz a (ns.map V.int), .own false hd, .unk, .unk, .unk, .unk, .unk, .unk, .unk] Q' R := fun Q' R hq => ⟨by decide, by decide, hq⟩
    refine hdi _ _ ⟨fun i Γ => ∃ hd g2 g3 g4 g5 g6 g7, Γ = [.frz a (ns.map V.int), .own false hd, g2, g3, g4, g5, g6, g7, .unk] ∧ HandOk hd, ⟨hd, _, _, _, _, _, _, rfl, hh⟩, ?_, fun Γ hP => hK Γ hP⟩
    rintro i Γ y hi ⟨hd, g2, g3, g4, g5, g6, g7, rfl, hh⟩
    show dSeq _ _ _ [.frz a (ns.map V.int), .own false hd, .val y, g3, g4, g5, g6, g7, .unk]
    refine seqP (fun Γ => ∃ hd t, Γ = [.frz a (ns.map V.int), .own false hd, .val y, .val t, g4, g5, g6, g7, .unk] ∧ HandOk hd ∧ IsTr t ∧ dp t ≤ 5 ∧ nd t ≤ 300) (fun K hK => ?_) ?_
    · simp only [dCallH, dSeq, dRet, dRetN, dNext, dAndV, dOrV, dNotV, dIsi, dVar, dC, dUn, dOp, dCB, dCons, dNil, dTup, dLst, dTest, dAnd, dOr, dNot, dIf, dIfS, dAsg, dPar, dDrop, dAug, dAsgT, dgName, dgNil, dgCons, dgTup, dCall, dCallX, fInT, fIxT, dSl, dPart, dNoPart, dLenV, dIxV, dSlV, dApp, dExt, dPop, dSetIx, ownQ, putO, dYes, dSeqI, dEnum, dRng1, wipeG, startG, List.map_cons, List.map_nil, List.length_cons, List.length_nil, List.replicate, List.cons_append, List.nil_append, List.getElem?_cons_zero, List.getElem?_cons_succ, List.set_cons_zero, List.set_cons_succ, Nat.reduceAdd, Nat.reduceSub, Nat.zero_add, ne_eq, reduceCtorEq, not_false_eq_true, true_and, if_true, if_false, Bool.false_eq_true, decide_eq_true_eq, decide_true, decide_false, Bool.not_true, Bool.not_false, ite_true, ite_false, reduceIte, Option.some.injEq, exists_eq_left', List.drop_succ_cons, List.drop_zero, ↓y_wdv, ↓y_wdo, ↓y_wds0, ↓y_wds1, ↓y_okv, ↓y_oko, ↓y_addi, ↓y_adds, ↓y_addt, ↓y_addl, ↓y_muli, ↓y_mull, ↓y_eqi, ↓y_eqs, ↓y_nei, ↓y_nes, ↓y_eqt, ↓y_eql, ↓y_lti, ↓y_fi, ↓y_fi0, ↓y_isb, ↓y_ixt, ↓y_ixl, ↓y_lent, ↓y_lenl, ↓y_int, ↓y_tupl, ↓y_tupt, ↓y_lstt, ↓y_lstl, ↓y_slt, ↓y_sll, ↓y_repr, ↓y_at0, ↓y_at1, ↓y_at2, ↓y_at3, ↓y_at4, ↓y_st1, ↓y_st2, ↓y_st3, ↓y_st4, ↓y_exd, atI_0, atI_1, atI_2, atI_3, atI_4, cut_drop1]
      refine hdraw _ _ _ (by decide) (by decide) hh (fun r hd1 r0 r1 hh1 => ?_) _
      simp only [dSeq, dRet, dRetN, dNext, dAndV, dOrV, dNotV, dIsi, dVar, dC, dUn, dOp, dCB, dCons, dNil, dTup, dLst, dTest, dAnd, dOr, dNot, dIf, dIfS, dAsg, dPar, dDrop, dAug, dAsgT, dgName, dgNil, dgCons, dgTup, dCall, dCallX, fInT, fIxT, dSl, dPart, dNoPart, dLenV, dIxV, dSlV, dApp, dExt, dPop, dSetIx, ownQ, putO, dYes, dSeqI, dEnum, dRng1, wipeG, startG, List.map_cons, List.map_nil, List.length_cons, List.length_nil, List.replicate, List.cons_append, List.nil_append, List.getElem?_cons_zero, List.getElem?_cons_succ, List.set_cons_zero, List.set_cons_succ, Nat.reduceAdd, Nat.reduceSub, Nat.zero_add, ne_eq, reduceCtorEq, not_false_eq_true, true_and, if_true, if_false, Bool.false_eq_true, decide_eq_true_eq, decide_true, decide_false, Bool.not_true, Bool.not_false, ite_true, ite_false, reduceIte, Option.some.injEq, exists_eq_left', List.drop_succ_cons, List.drop_zero, ↓y_wdv, ↓y_wdo, ↓y_wds0, ↓y_wds1, ↓y_okv, ↓y_oko, ↓y_addi, ↓y_adds, ↓y_addt, ↓y_addl, ↓y_muli, ↓y_mull, ↓y_eqi, ↓y_eqs, ↓y_nei, ↓y_nes, ↓y_eqt, ↓y_eql, ↓y_lti, ↓y_fi, ↓y_fi0, ↓y_isb, ↓y_ixt, ↓y_ixl, ↓y_lent, ↓y_lenl, ↓y_int, ↓y_tupl, ↓y_tupt, ↓y_lstt, ↓y_lstl, ↓y_slt, ↓y_sll, ↓y_repr, ↓y_at0, ↓y_at1, ↓y_at2, ↓y_at3, ↓y_at4, ↓y_st1, ↓y_st2, ↓y_st3, ↓y_st4, ↓y_exd, atI_0, atI_1, atI_2, atI_3, atI_4, cut_drop1]
      have r5 : 1 + r ≤ 5 := by omega
      refine ⟨1 + r, rfl, r5, hh1, fun t hd2 ht h5 hn hh2 => ?_⟩
      simp only [dSeq, dRet, dRetN, dNext, dAndV, dOrV, dNotV, dIsi, dVar, dC, dUn, dOp, dCB, dCons, dNil, dTup, dLst, dTest, dAnd, dOr, dNot, dIf, dIfS, dAsg, dPar, dDrop, dAug, dAsgT, dgName, dgNil, dgCons, dgTup, dCall, dCallX, fInT, fIxT, dSl, dPart, dNoPart, dLenV, dIxV, dSlV, dApp, dExt, dPop, dSetIx, ownQ, putO, dYes, dSeqI, dEnum, dRng1, wipeG, startG, List.map_cons, List.map_nil, List.length_cons, List.length_nil, List.replicate, List.cons_append, List.nil_append, List.getElem?_cons_zero, List.getElem?_cons_succ, List.set_cons_zero, List.set_cons_succ, Nat.reduceAdd, Nat.reduceSub, Nat.zero_add, ne_eq, reduceCtorEq, not_false_eq_true, true_and, if_true, if_false, Bool.false_eq_true, decide_eq_true_eq, decide_true, decide_false, Bool.not_true, Bool.not_false, ite_true, ite_false, reduceIte, Option.some.injEq, exists_eq_left', List.drop_succ_cons, List.drop_zero, ↓y_wdv, ↓y_wdo, ↓y_wds0, ↓y_wds1, ↓y_okv, ↓y_oko, ↓y_addi, ↓y_adds, ↓y_addt, ↓y_addl, ↓y_muli, ↓y_mull, ↓y_eqi, ↓y_eqs, ↓y_nei, ↓y_nes, ↓y_eqt, ↓y_eql, ↓y_lti, ↓y_fi, ↓y_fi0, ↓y_isb, ↓y_ixt, ↓y_ixl, ↓y_lent, ↓y_lenl, ↓y_int, ↓y_tupl, ↓y_tupt, ↓y_lstt, ↓y_lstl, ↓y_slt, ↓y_sll, ↓y_repr, ↓y_at0, ↓y_at1, ↓y_at2, ↓y_at3, ↓y_at4, ↓y_st1, ↓y_st2, ↓y_st3, ↓y_st4, ↓y_exd, atI_0, atI_1, atI_2, atI_3, atI_4, cut_drop1]
      exact hK _ ⟨hd2, t, rfl, hh2, ht, h5, Nat.le_trans hn (by decide)⟩
    rintro Γ ⟨hd, t, rfl, hh, ht, h5, hn⟩
    refine seqP (fun Γ => ∃ (hd : List PyData) (m f : Nat), Γ = [.frz a (ns.map V.int), .own false hd, .val y, .val t, g4, g5, .val (.int m), .val (.int f), .unk] ∧ HandOk hd ∧ 1 ≤ m ∧ m ≤ 60 ∧ 1 ≤ f ∧ f ≤ 39) (fun K hK => ?_) ?_
    · simp only [dCallH, dSeq, dRet, dRetN, dNext, dAndV, dOrV, dNotV, dIsi, dVar, dC, dUn, dOp, dCB, dCons, dNil, dTup, dLst, dTest, dAnd, dOr, dNot, dIf, dIfS, dAsg, dPar, dDrop, dAug, dAsgT, dgName, dgNil, dgCons, dgTup, dCall, dCallX, fInT, fIxT, dSl, dPart, dNoPart, dLenV, dIxV, dSlV, dApp, dExt, dPop, dSetIx, ownQ, putO, dYes, dSeqI, dEnum, dRng1, wipeG, startG, List.map_cons, List.map_nil, List.length_cons, List.length_nil, List.replicate, List.cons_append, List.nil_append, List.getElem?_cons_zero, List.getElem?_cons_succ, List.set_cons_zero, List.set_cons_succ, Nat.reduceAdd, Nat.reduceSub, Nat.zero_add, ne_eq, reduceCtorEq, not_false_eq_true, true_and, if_true, if_false, Bool.false_eq_true, decide_eq_true_eq, decide_true, decide_false, Bool.not_true, Bool.not_false, ite_true, ite_false, reduceIte, Option.some.injEq, exists_eq_left', List.drop_succ_cons, List.drop_zero, ↓y_wdv, ↓y_wdo, ↓y_wds0, ↓y_wds1, ↓y_okv, ↓y_oko, ↓y_addi, ↓y_adds, ↓y_addt, ↓y_addl, ↓y_muli, ↓y_mull, ↓y_eqi, ↓y_eqs, ↓y_nei, ↓y_nes, ↓y_eqt, ↓y_eql, ↓y_lti, ↓y_fi, ↓y_fi0, ↓y_isb, ↓y_ixt, ↓y_ixl, ↓y_lent, ↓y_lenl, ↓y_int, ↓y_tupl, ↓y_tupt, ↓y_lstt, ↓y_lstl, ↓y_slt, ↓y_sll, ↓y_repr, ↓y_at0, ↓y_at1, ↓y_at2, ↓y_at3, ↓y_at4, ↓y_st1, ↓y_st2, ↓y_st3, ↓y_st4, ↓y_exd, atI_0, atI_1, atI_2, atI_3, atI_4, cut_drop1]
      refine hdraw _ _ _ (by decide) (by decide) hh (fun r hd1 r0 r1 hh1 => ?_) _
      simp only [dSeq, dRet, dRetN, dNext, dAndV, dOrV, dNotV, dIsi, dVar, dC, dUn, dOp, dCB, dCons, dNil, dTup, dLst, dTest, dAnd, dOr, dNot, dIf, dIfS, dAsg, dPar, dDrop, dAug, dAsgT, dgName, dgNil, dgCons, dgTup, dCall, dCallX, fInT, fIxT, dSl, dPart, dNoPart, dLenV, dIxV, dSlV, dApp, dExt, dPop, dSetIx, ownQ, putO, dYes, dSeqI, dEnum, dRng1, wipeG, startG, List.map_cons, List.map_nil, List.length_cons, List.length_nil, List.replicate, List.cons_append, List.nil_append, List.getElem?_cons_zero, List.getElem?_cons_succ, List.set_cons_zero, List.set_cons_succ, Nat.reduceAdd, Nat.reduceSub, Nat.zero_add, ne_eq, reduceCtorEq, not_false_eq_true, true_and, if_true, if_false, Bool.false_eq_true, decide_eq_true_eq, decide_true, decide_false, Bool.not_true, Bool.not_false, ite_true, ite_false, reduceIte, Option.some.injEq, exists_eq_left', List.drop_succ_cons, List.drop_zero, ↓y_wdv, ↓y_wdo, ↓y_wds0, ↓y_wds1, ↓y_okv, ↓y_oko, ↓y_addi, ↓y_adds, ↓y_addt, ↓y_addl, ↓y_muli, ↓y_mull, ↓y_eqi, ↓y_eqs, ↓y_nei, ↓y_nes, ↓y_eqt, ↓y_eql, ↓y_lti, ↓y_fi, ↓y_fi0, ↓y_isb, ↓y_ixt, ↓y_ixl, ↓y_lent, ↓y_lenl, ↓y_int, ↓y_tupl, ↓y_tupt, ↓y_lstt, ↓y_lstl, ↓y_slt, ↓y_sll, ↓y_repr, ↓y_at0, ↓y_at1, ↓y_at2, ↓y_at3, ↓y_at4, ↓y_st1, ↓y_st2, ↓y_st3, ↓y_st4, ↓y_exd, atI_0, atI_1, atI_2, atI_3, atI_4, cut_drop1]
      refine hdraw _ _ _ (by decide) (by decide) hh1 (fun r' hd2 r2 r3 hh2 => ?_) _
      simp only [dSeq, dRet, dRetN, dNext, dAndV, dOrV, dNotV, dIsi, dVar, dC, dUn, dOp, dCB, dCons, dNil, dTup, dLst, dTest, dAnd, dOr, dNot, dIf, dIfS, dAsg, dPar, dDrop, dAug, dAsgT, dgName, dgNil, dgCons, dgTup, dCall, dCallX, fInT, fIxT, dSl, dPart, dNoPart, dLenV, dIxV, dSlV, dApp, dExt, dPop, dSetIx, ownQ, putO, dYes, dSeqI, dEnum, dRng1, wipeG, startG, List.map_cons, List.map_nil, List.length_cons, List.length_nil, List.replicate, List.cons_append, List.nil_append, List.getElem?_cons_zero, List.getElem?_cons_succ, List.set_cons_zero, List.set_cons_succ, Nat.reduceAdd, Nat.reduceSub, Nat.zero_add, ne_eq, reduceCtorEq, not_false_eq_true, true_and, if_true, if_false, Bool.false_eq_true, decide_eq_true_eq, decide_true, decide_false, Bool.not_true, Bool.not_false, ite_true, ite_false, reduceIte, Option.some.injEq, exists_eq_left', List.drop_succ_cons, List.drop_zero, ↓y_wdv, ↓y_wdo, ↓y_wds0, ↓y_wds1, ↓y_okv, ↓y_oko, ↓y_addi, ↓y_adds, ↓y_addt, ↓y_addl, ↓y_muli, ↓y_mull, ↓y_eqi, ↓y_eqs, ↓y_nei, ↓y_nes, ↓y_eqt, ↓y_eql, ↓y_lti, ↓y_fi, ↓y_fi0, ↓y_isb, ↓y_ixt, ↓y_ixl, ↓y_lent, ↓y_lenl, ↓y_int, ↓y_tupl, ↓y_tupt, ↓y_lstt, ↓y_lstl, ↓y_slt, ↓y_sll, ↓y_repr, ↓y_at0, ↓y_at1, ↓y_at2, ↓y_at3, ↓y_at4, ↓y_st1, ↓y_st2, ↓y_st3, ↓y_st4, ↓y_exd, atI_0, atI_1, atI_2, atI_3, atI_4, cut_drop1]
      refine hK _ ⟨hd2, (1 + r).toNat, (1 + r').toNat, ?_, hh2, by omega, by omega, by omega, by omega⟩
      rw [Int.toNat_of_nonneg (by omega), Int.toNat_of_nonneg (by omega)]
    rintro Γ ⟨hd, m, f, rfl, hh, m1, m2, f1, f2⟩
    refine seq_ifN (fun Γ => ∃ (hd : List PyData), Γ = [.frz a (ns.map V.int), .own false hd, .val y, .val t, g4, g5, .val (.int m), .val (.int f), .unk] ∧ HandOk hd) (fun Q hq => ?_) ?_
    · simp only [dCallH, dSeq, dRet, dRetN, dNext, dAndV, dOrV, dNotV, dIsi, dVar, dC, dUn, dOp, dCB, dCons, dNil, dTup, dLst, dTest, dAnd, dOr, dNot, dIf, dIfS, dAsg, dPar, dDrop, dAug, dAsgT, dgName, dgNil, dgCons, dgTup, dCall, dCallX, fInT, fIxT, dSl, dPart, dNoPart, dLenV, dIxV, dSlV, dApp, dExt, dPop, dSetIx, ownQ, putO, dYes, dSeqI, dEnum, dRng1, wipeG, startG, List.map_cons, List.map_nil, List.length_cons, List.length_nil, List.replicate, List.cons_append, List.nil_append, List.getElem?_cons_zero, List.getElem?_cons_succ, List.set_cons_zero, List.set_cons_succ, Nat.reduceAdd, Nat.reduceSub, Nat.zero_add, ne_eq, reduceCtorEq, not_false_eq_true, true_and, if_true, if_false, Bool.false_eq_true, decide_eq_true_eq, decide_true, decide_false, Bool.not_true, Bool.not_false, ite_true, ite_false, reduceIte, Option.some.injEq, exists_eq_left', List.drop_succ_cons, List.drop_zero, ↓y_wdv, ↓y_wdo, ↓y_wds0, ↓y_wds1, ↓y_okv, ↓y_oko, ↓y_addi, ↓y_adds, ↓y_addt, ↓y_addl, ↓y_muli, ↓y_mull, ↓y_eqi, ↓y_eqs, ↓y_nei, ↓y_nes, ↓y_eqt, ↓y_eql, ↓y_lti, ↓y_fi, ↓y_fi0, ↓y_isb, ↓y_ixt, ↓y_ixl, ↓y_lent, ↓y_lenl, ↓y_int, ↓y_tupl, ↓y_tupt, ↓y_lstt, ↓y_lstl, ↓y_slt, ↓y_sll, ↓y_repr, ↓y_at0, ↓y_at1, ↓y_at2, ↓y_at3, ↓y_at4, ↓y_st1, ↓y_st2, ↓y_st3, ↓y_st4, ↓y_exd, atI_0, atI_1, atI_2, atI_3, atI_4, cut_drop1]
      refine lc_mapG (fun items Γ' => (∃ (hd : List PyData), Γ' = [.frz a (ns.map V.int), .own false hd, .val y, .val t, g4, g5, .val (.int m), .val (.int f), .unk] ∧ HandOk hd) ∧ items.length = 3 ∧ ∀ d ∈ items, IsTr d ∧ dp d ≤ 40 ∧ nd d ≤ 300) (fun _ => .bool true) (fun Q' hq' => ?_) ?_ ?_ ?_
      · simp only [dCallH, dSeq, dRet, dRetN, dNext, dAndV, dOrV, dNotV, dIsi, dVar, dC, dUn, dOp, dCB, dCons, dNil, dTup, dLst, dTest, dAnd, dOr, dNot, dIf, dIfS, dAsg, dPar, dDrop, dAug, dAsgT, dgName, dgNil, dgCons, dgTup, dCall, dCallX, fInT, fIxT, dSl, dPart, dNoPart, dLenV, dIxV, dSlV, dApp, dExt, dPop, dSetIx, ownQ, putO, dYes, dSeqI, dEnum, dRng1, wipeG, startG, List.map_cons, List.map_nil, List.length_cons, List.length_nil, List.replicate, List.cons_append, List.nil_append, List.getElem?_cons_zero, List.getElem?_cons_succ, List.set_cons_zero, List.set_cons_succ, Nat.reduceAdd, Nat.reduceSub, Nat.zero_add, ne_eq, reduceCtorEq, not_false_eq_true, true_and, if_true, if_false, Bool.false_eq_true, decide_eq_true_eq, decide_true, decide_false, Bool.not_true, Bool.not_false, ite_true, ite_false, reduceIte, Option.some.injEq, exists_eq_left', List.drop_succ_cons, List.drop_zero, ↓y_wdv, ↓y_wdo, ↓y_wds0, ↓y_wds1, ↓y_okv, ↓y_oko, ↓y_addi, ↓y_adds, ↓y_addt, ↓y_addl, ↓y_muli, ↓y_mull, ↓y_eqi, ↓y_eqs, ↓y_nei, ↓y_nes, ↓y_eqt, ↓y_eql, ↓y_lti, ↓y_fi, ↓y_fi0, ↓y_isb, ↓y_ixt, ↓y_ixl, ↓y_lent, ↓y_lenl, ↓y_int, ↓y_tupl, ↓y_tupt, ↓y_lstt, ↓y_lstl, ↓y_slt, ↓y_sll, ↓y_repr, ↓y_at0, ↓y_at1, ↓y_at2, ↓y_at3, ↓y_at4, ↓y_st1, ↓y_st2, ↓y_st3, ↓y_st4, ↓y_exd, atI_0, atI_1, atI_2, atI_3, atI_4, cut_drop1]
        refine hwide m _ _ _ rfl m1 (by omega) hh (fun d1 hd1 ht1 hd11 hn1 hh1 => ?_) _
        simp only [dSeq, dRet, dRetN, dNext, dAndV, dOrV, dNotV, dIsi, dVar, dC, dUn, dOp, dCB, dCons, dNil, dTup, dLst, dTest, dAnd, dOr, dNot, dIf, dIfS, dAsg, dPar, dDrop, dAug, dAsgT, dgName, dgNil, dgCons, dgTup, dCall, dCallX, fInT, fIxT, dSl, dPart, dNoPart, dLenV, dIxV, dSlV, dApp, dExt, dPop, dSetIx, ownQ, putO, dYes, dSeqI, dEnum, dRng1, wipeG, startG, List.map_cons, List.map_nil, List.length_cons, List.length_nil, List.replicate, List.cons_append, List.nil_append, List.getElem?_cons_zero, List.getElem?_cons_succ, List.set_cons_zero, List.set_cons_succ, Nat.reduceAdd, Nat.reduceSub, Nat.zero_add, ne_eq, reduceCtorEq, not_false_eq_true, true_and, if_true, if_false, Bool.false_eq_true, decide_eq_true_eq, decide_true, decide_false, Bool.not_true, Bool.not_false, ite_true, ite_false, reduceIte, Option.some.injEq, exists_eq_left', List.drop_succ_cons, List.drop_zero, ↓y_wdv, ↓y_wdo, ↓y_wds0, ↓y_wds1, ↓y_okv, ↓y_oko, ↓y_addi, ↓y_adds, ↓y_addt, ↓y_addl, ↓y_muli, ↓y_mull, ↓y_eqi, ↓y_eqs, ↓y_nei, ↓y_nes, ↓y_eqt, ↓y_eql, ↓y_lti, ↓y_fi, ↓y_fi0, ↓y_isb, ↓y_ixt, ↓y_ixl, ↓y_lent, ↓y_lenl, ↓y_int, ↓y_tupl, ↓y_tupt, ↓y_lstt, ↓y_lstl, ↓y_slt, ↓y_sll, ↓y_repr, ↓y_at0, ↓y_at1, ↓y_at2, ↓y_at3, ↓y_at4, ↓y_st1, ↓y_st2, ↓y_st3, ↓y_st4, ↓y_exd, atI_0, atI_1, atI_2, atI_3, atI_4, cut_drop1]
        refine hchain f _ _ _ rfl f1 (by omega) hh1 (fun d2 hd2 ht2 hd22 hn2 hh2 => ?_) _
        simp only [dSeq, dRet, dRetN, dNext, dAndV, dOrV, dNotV, dIsi, dVar, dC, dUn, dOp, dCB, dCons, dNil, dTup, dLst, dTest, dAnd, dOr, dNot, dIf, dIfS, dAsg, dPar, dDrop, dAug, dAsgT, dgName, dgNil, dgCons, dgTup, dCall, dCallX, fInT, fIxT, dSl, dPart, dNoPart, dLenV, dIxV, dSlV, dApp, dExt, dPop, dSetIx, ownQ, putO, dYes, dSeqI, dEnum, dRng1, wipeG, startG, List.map_cons, List.map_nil, List.length_cons, List.length_nil, List.replicate, List.cons_append, List.nil_append, List.getElem?_cons_zero, List.getElem?_cons_succ, List.set_cons_zero, List.set_cons_succ, Nat.reduceAdd, Nat.reduceSub, Nat.zero_add, ne_eq, reduceCtorEq, not_false_eq_true, true_and, if_true, if_false, Bool.false_eq_true, decide_eq_true_eq, decide_true, decide_false, Bool.not_true, Bool.not_false, ite_true, ite_false, reduceIte, Option.some.injEq, exists_eq_left', List.drop_succ_cons, List.drop_zero, ↓y_wdv, ↓y_wdo, ↓y_wds0, ↓y_wds1, ↓y_okv, ↓y_oko, ↓y_addi, ↓y_adds, ↓y_addt, ↓y_addl, ↓y_muli, ↓y_mull, ↓y_eqi, ↓y_eqs, ↓y_nei, ↓y_nes, ↓y_eqt, ↓y_eql, ↓y_lti, ↓y_fi, ↓y_fi0, ↓y_isb, ↓y_ixt, ↓y_ixl, ↓y_lent, ↓y_lenl, ↓y_int, ↓y_tupl, ↓y_tupt, ↓y_lstt, ↓y_lstl, ↓y_slt, ↓y_sll, ↓y_repr, ↓y_at0, ↓y_at1, ↓y_at2, ↓y_at3, ↓y_at4, ↓y_st1, ↓y_st2, ↓y_st3, ↓y_st4, ↓y_exd, atI_0, atI_1, atI_2, atI_3, atI_4, cut_drop1]
        refine ⟨small (by simp), hq' _ _ ⟨⟨hd2, rfl, hh2⟩, rfl, fun d hd => ?_⟩⟩
        simp only [List.mem_cons, List.not_mem_nil, or_false] at hd
        rcases hd with rfl | rfl | rfl
        · exact ⟨ht, by omega, by omega⟩
        · exact ⟨ht1, by omega, by omega⟩
        · exact ⟨ht2, by omega, by omega⟩
      · rintro items _ ⟨⟨hd, rfl, hh⟩, hl, _⟩
        exact ⟨rfl, small (by omega)⟩
      · rintro items _ ⟨⟨hd, rfl, hh⟩, hl, ha⟩ d hd Q' hq'
        obtain ⟨b1, b2, b3⟩ := ha d hd
        simp only [dSeq, dRet, dRetN, dNext, dAndV, dOrV, dNotV, dIsi, dVar, dC, dUn, dOp, dCB, dCons, dNil, dTup, dLst, dTest, dAnd, dOr, dNot, dIf, dIfS, dAsg, dPar, dDrop, dAug, dAsgT, dgName, dgNil, dgCons, dgTup, dCall, dCallX, fInT, fIxT, dSl, dPart, dNoPart, dLenV, dIxV, dSlV, dApp, dExt, dPop, dSetIx, ownQ, putO, dYes, dSeqI, dEnum, dRng1, wipeG, startG, List.map_cons, List.map_nil, List.length_cons, List.length_nil, List.replicate, List.cons_append, List.nil_append, List.getElem?_cons_zero, List.getElem?_cons_succ, List.set_cons_zero, List.set_cons_succ, Nat.reduceAdd, Nat.reduceSub, Nat.zero_add, ne_eq, reduceCtorEq, not_false_eq_true, true_and, if_true, if_false, Bool.false_eq_true, decide_eq_true_eq, decide_true, decide_false, Bool.not_true, Bool.not_false, ite_true, ite_false, reduceIte, Option.some.injEq, exists_eq_left', List.drop_succ_cons, List.drop_zero, ↓y_wdv, ↓y_wdo, ↓y_wds0, ↓y_wds1, ↓y_okv, ↓y_oko, ↓y_addi, ↓y_adds, ↓y_addt, ↓y_addl, ↓y_muli, ↓y_mull, ↓y_eqi, ↓y_eqs, ↓y_nei, ↓y_nes, ↓y_eqt, ↓y_eql, ↓y_lti, ↓y_fi, ↓y_fi0, ↓y_isb, ↓y_ixt, ↓y_ixl, ↓y_lent, ↓y_lenl, ↓y_int, ↓y_tupl, ↓y_tupt, ↓y_lstt, ↓y_lstl, ↓y_slt, ↓y_sll, ↓y_repr, ↓y_at0, ↓y_at1, ↓y_at2, ↓y_at3, ↓y_at4, ↓y_st1, ↓y_st2, ↓y_st3, ↓y_st4, ↓y_exd, atI_0, atI_1, atI_2, atI_3, atI_4, cut_drop1]
        exact ⟨d, rfl, b1, b2, b3, hq' _ (by rfl)⟩
      · rintro items _ ⟨⟨hd, rfl, hh⟩, hl, ha⟩
        simp only [fAll, dSeq, dRet, dRetN, dNext, dAndV, dOrV, dNotV, dIsi, dVar, dC, dUn, dOp, dCB, dCons, dNil, dTup, dLst, dTest, dAnd, dOr, dNot, dIf, dIfS, dAsg, dPar, dDrop, dAug, dAsgT, dgName, dgNil, dgCons, dgTup, dCall, dCallX, fInT, fIxT, dSl, dPart, dNoPart, dLenV, dIxV, dSlV, dApp, dExt, dPop, dSetIx, ownQ, putO, dYes, dSeqI, dEnum, dRng1, wipeG, startG, List.map_cons, List.map_nil, List.length_cons, List.length_nil, List.replicate, List.cons_append, List.nil_append, List.getElem?_cons_zero, List.getElem?_cons_succ, List.set_cons_zero, List.set_cons_succ, Nat.reduceAdd, Nat.reduceSub, Nat.zero_add, ne_eq, reduceCtorEq, not_false_eq_true, true_and, if_true, if_false, Bool.false_eq_true, decide_eq_true_eq, decide_true, decide_false, Bool.not_true, Bool.not_false, ite_true, ite_false, reduceIte, Option.some.injEq, exists_eq_left', List.drop_succ_cons, List.drop_zero, ↓y_wdv, ↓y_wdo, ↓y_wds0, ↓y_wds1, ↓y_okv, ↓y_oko, ↓y_addi, ↓y_adds, ↓y_addt, ↓y_addl, ↓y_muli, ↓y_mull, ↓y_eqi, ↓y_eqs, ↓y_nei, ↓y_nes, ↓y_eqt, ↓y_eql, ↓y_lti, ↓y_fi, ↓y_fi0, ↓y_isb, ↓y_ixt, ↓y_ixl, ↓y_lent, ↓y_lenl, ↓y_int, ↓y_tupl, ↓y_tupt, ↓y_lstt, ↓y_lstl, ↓y_slt, ↓y_sll, ↓y_repr, ↓y_at0, ↓y_at1, ↓y_at2, ↓y_at3, ↓y_at4, ↓y_st1, ↓y_st2, ↓y_st3, ↓y_st4, ↓y_exd, atI_0, atI_1, atI_2, atI_3, atI_4, cut_drop1]
        refine ⟨List.replicate 3 true, ?_, ?_⟩
        · rw [List.map_const', hl]; rfl
        · exact hq _ ⟨hd, rfl, hh⟩
    rintro Γ ⟨hd, rfl, hh⟩
    refine ifN (fun Γ => ∃ (hd : List PyData), Γ = [.frz a (ns.map V.int), .own false hd, .val y, .val t, g4, g5, .val (.int m), .val (.int f), .unk] ∧ HandOk hd) (fun Q hq => ?_) (fun Γ' hP => ?_)
    · simp only [dCallH, dSeq, dRet, dRetN, dNext, dAndV, dOrV, dNotV, dIsi, dVar, dC, dUn, dOp, dCB, dCons, dNil, dTup, dLst, dTest, dAnd, dOr, dNot, dIf, dIfS, dAsg, dPar, dDrop, dAug, dAsgT, dgName, dgNil, dgCons, dgTup, dCall, dCallX, fInT, fIxT, dSl, dPart, dNoPart, dLenV, dIxV, dSlV, dApp, dExt, dPop, dSetIx, ownQ, putO, dYes, dSeqI, dEnum, dRng1, wipeG, startG, List.map_cons, List.map_nil, List.length_cons, List.length_nil, List.replicate, List.cons_append, List.nil_append, List.getElem?_cons_zero, List.getElem?_cons_succ, List.set_cons_zero, List.set_cons_succ, Nat.reduceAdd, Nat.reduceSub, Nat.zero_add, ne_eq, reduceCtorEq, not_false_eq_true, true_and, if_true, if_false, Bool.false_eq_true, decide_eq_true_eq, decide_true, decide_false, Bool.not_true, Bool.not_false, ite_true, ite_false, reduceIte, Option.some.injEq, exists_eq_left', List.drop_succ_cons, List.drop_zero, ↓y_wdv, ↓y_wdo, ↓y_wds0, ↓y_wds1, ↓y_okv, ↓y_oko, ↓y_addi, ↓y_adds, ↓y_addt, ↓y_addl, ↓y_muli, ↓y_mull, ↓y_eqi, ↓y_eqs, ↓y_nei, ↓y_nes, ↓y_eqt, ↓y_eql, ↓y_lti, ↓y_fi, ↓y_fi0, ↓y_isb, ↓y_ixt, ↓y_ixl, ↓y_lent, ↓y_lenl, ↓y_int, ↓y_tupl, ↓y_tupt, ↓y_lstt, ↓y_lstl, ↓y_slt, ↓y_sll, ↓y_repr, ↓y_at0, ↓y_at1, ↓y_at2, ↓y_at3, ↓y_at4, ↓y_st1, ↓y_st2, ↓y_st3, ↓y_st4, ↓y_exd, atI_0, atI_1, atI_2, atI_3, atI_4, cut_drop1]
      refine ⟨t, rfl, ht, h5, hn, hh, fun r hd1 hr hh1 => ?_⟩
      simp only [dSeq, dRet, dRetN, dNext, dAndV, dOrV, dNotV, dIsi, dVar, dC, dUn, dOp, dCB, dCons, dNil, dTup, dLst, dTest, dAnd, dOr, dNot, dIf, dIfS, dAsg, dPar, dDrop, dAug, dAsgT, dgName, dgNil, dgCons, dgTup, dCall, dCallX, fInT, fIxT, dSl, dPart, dNoPart, dLenV, dIxV, dSlV, dApp, dExt, dPop, dSetIx, ownQ, putO, dYes, dSeqI, dEnum, dRng1, wipeG, startG, List.map_cons, List.map_nil, List.length_cons, List.length_nil, List.replicate, List.cons_append, List.nil_append, List.getElem?_cons_zero, List.getElem?_cons_succ, List.set_cons_zero, List.set_cons_succ, Nat.reduceAdd, Nat.reduceSub, Nat.zero_add, ne_eq, reduceCtorEq, not_false_eq_true, true_and, if_true, if_false, Bool.false_eq_true, decide_eq_true_eq, decide_true, decide_false, Bool.not_true, Bool.not_false, ite_true, ite_false, reduceIte, Option.some.injEq, exists_eq_left', List.drop_succ_cons, List.drop_zero, ↓y_wdv, ↓y_wdo, ↓y_wds0, ↓y_wds1, ↓y_okv, ↓y_oko, ↓y_addi, ↓y_adds, ↓y_addt, ↓y_addl, ↓y_muli, ↓y_mull, ↓y_eqi, ↓y_eqs, ↓y_nei, ↓y_nes, ↓y_eqt, ↓y_eql, ↓y_lti, ↓y_fi, ↓y_fi0, ↓y_isb, ↓y_ixt, ↓y_ixl, ↓y_lent, ↓y_lenl, ↓y_int, ↓y_tupl, ↓y_tupt, ↓y_lstt, ↓y_lstl, ↓y_slt, ↓y_sll, ↓y_repr, ↓y_at0, ↓y_at1, ↓y_at2, ↓y_at3, ↓y_at4, ↓y_st1, ↓y_st2, ↓y_st3, ↓y_st4, ↓y_exd, atI_0, atI_1, atI_2, atI_3, atI_4, cut_drop1]
      refine ⟨r, rfl, hr, ?_⟩
      simp only [dSeq, dRet, dRetN, dNext, dAndV, dOrV, dNotV, dIsi, dVar, dC, dUn, dOp, dCB, dCons, dNil, dTup, dLst, dTest, dAnd, dOr, dNot, dIf, dIfS, dAsg, dPar, dDrop, dAug, dAsgT, dgName, dgNil, dgCons, dgTup, dCall, dCallX, fInT, fIxT, dSl, dPart, dNoPart, dLenV, dIxV, dSlV, dApp, dExt, dPop, dSetIx, ownQ, putO, dYes, dSeqI, dEnum, dRng1, wipeG, startG, List.map_cons, List.map_nil, List.length_cons, List.length_nil, List.replicate, List.cons_append, List.nil_append, List.getElem?_cons_zero, List.getElem?_cons_succ, List.set_cons_zero, List.set_cons_succ, Nat.reduceAdd, Nat.reduceSub, Nat.zero_add, ne_eq, reduceCtorEq, not_false_eq_true, true_and, if_true, if_false, Bool.false_eq_true, decide_eq_true_eq, decide_true, decide_false, Bool.not_true, Bool.not_false, ite_true, ite_false, reduceIte, Option.some.injEq, exists_eq_left', List.drop_succ_cons, List.drop_zero, ↓y_wdv, ↓y_wdo, ↓y_wds0, ↓y_wds1, ↓y_okv, ↓y_oko, ↓y_addi, ↓y_adds, ↓y_addt, ↓y_addl, ↓y_muli, ↓y_mull, ↓y_eqi, ↓y_eqs, ↓y_nei, ↓y_nes, ↓y_eqt, ↓y_eql, ↓y_lti, ↓y_fi, ↓y_fi0, ↓y_isb, ↓y_ixt, ↓y_ixl, ↓y_lent, ↓y_lenl, ↓y_int, ↓y_tupl, ↓y_tupt, ↓y_lstt, ↓y_lstl, ↓y_slt, ↓y_sll, ↓y_repr, ↓y_at0, ↓y_at1, ↓y_at2, ↓y_at3, ↓y_at4, ↓y_st1, ↓y_st2, ↓y_st3, ↓y_st4, ↓y_exd, atI_0, atI_1, atI_2, atI_3, atI_4, cut_drop1]
      refine ⟨small (by simp), _, rfl, tA, by decide, by decide, hh1, fun r hd2 hr hh2 => ?_⟩
      simp only [dSeq, dRet, dRetN, dNext, dAndV, dOrV, dNotV, dIsi, dVar, dC, dUn, dOp, dCB, dCons, dNil, dTup, dLst, dTest, dAnd, dOr, dNot, dIf, dIfS, dAsg, dPar, dDrop, dAug, dAsgT, dgName, dgNil, dgCons, dgTup, dCall, dCallX, fInT, fIxT, dSl, dPart, dNoPart, dLenV, dIxV, dSlV, dApp, dExt, dPop, dSetIx, ownQ, putO, dYes, dSeqI, dEnum, dRng1, wipeG, startG, List.map_cons, List.map_nil, List.length_cons, List.length_nil, List.replicate, List.cons_append, List.nil_append, List.getElem?_cons_zero, List.getElem?_cons_succ, List.set_cons_zero, List.set_cons_succ, Nat.reduceAdd, Nat.reduceSub, Nat.zero_add, ne_eq, reduceCtorEq, not_false_eq_true, true_and, if_true, if_false, Bool.false_eq_true, decide_eq_true_eq, decide_true, decide_false, Bool.not_true, Bool.not_false, ite_true, ite_false, reduceIte, Option.some.injEq, exists_eq_left', List.drop_succ_cons, List.drop_zero, ↓y_wdv, ↓y_wdo, ↓y_wds0, ↓y_wds1, ↓y_okv, ↓y_oko, ↓y_addi, ↓y_adds, ↓y_addt, ↓y_addl, ↓y_muli, ↓y_mull, ↓y_eqi, ↓y_eqs, ↓y_nei, ↓y_nes, ↓y_eqt, ↓y_eql, ↓y_lti, ↓y_fi, ↓y_fi0, ↓y_isb, ↓y_ixt, ↓y_ixl, ↓y_lent, ↓y_lenl, ↓y_int, ↓y_tupl, ↓y_tupt, ↓y_lstt, ↓y_lstl, ↓y_slt, ↓y_sll, ↓y_repr, ↓y_at0, ↓y_at1, ↓y_at2, ↓y_at3, ↓y_at4, ↓y_st1, ↓y_st2, ↓y_st3, ↓y_st4, ↓y_exd, atI_0, atI_1, atI_2, atI_3, atI_4, cut_drop1]
      refine ⟨r, rfl, hr, ?_⟩
      exact hq _ ⟨hd2, rfl, hh2⟩
    · obtain ⟨hd, rfl, hh⟩ := hP
      exact ⟨hd, _, _, _, _, _, _, rfl, hh⟩
  rintro Γ ⟨hd, g2, g3, g4, g5, g6, g7, rfl, hh⟩
  refine seqP (fun Γ => ∃ hd d e, Γ = [.frz a (ns.map V.int), .own false hd, g2, g3, .val d, .val e, g6, g7, .unk] ∧ HandOk hd ∧ (IsTr d ∧ dp d ≤ 18 ∧ nd d = 300) ∧ IsTr e ∧ dp e = 40 ∧ nd e = 40) (fun K hK => ?_) ?_
  · simp only [dCallH, dSeq, dRet, dRetN, dNext, dAndV, dOrV, dNotV, dIsi, dVar, dC, dUn, dOp, dCB, dCons, dNil, dTup, dLst, dTest, dAnd, dOr, dNot, dIf, dIfS, dAsg, dPar, dDrop, dAug, dAsgT, dgName, dgNil, dgCons, dgTup, dCall, dCallX, fInT, fIxT, dSl, dPart, dNoPart, dLenV, dIxV, dSlV, dApp, dExt, dPop, dSetIx, ownQ, putO, dYes, dSeqI, dEnum, dRng1, wipeG, startG, List.map_cons, List.map_nil, List.length_cons, List.length_nil, List.replicate, List.cons_append, List.nil_append, List.getElem?_cons_zero, List.getElem?_cons_succ, List.set_cons_zero, List.set_cons_succ, Nat.reduceAdd, Nat.reduceSub, Nat.zero_add, ne_eq, reduceCtorEq, not_false_eq_true, true_and, if_true, if_false, Bool.false_eq_true, decide_eq_true_eq, decide_true, decide_false, Bool.not_true, Bool.not_false, ite_true, ite_false, reduceIte, Option.some.injEq, exists_eq_left', List.drop_succ_cons, List.drop_zero, ↓y_wdv, ↓y_wdo, ↓y_wds0, ↓y_wds1, ↓y_okv, ↓y_oko, ↓y_addi, ↓y_adds, ↓y_addt, ↓y_addl, ↓y_muli, ↓y_mull, ↓y_eqi, ↓y_eqs, ↓y_nei, ↓y_nes, ↓y_eqt, ↓y_eql, ↓y_lti, ↓y_fi, ↓y_fi0, ↓y_isb, ↓y_ixt, ↓y_ixl, ↓y_lent, ↓y_lenl, ↓y_int, ↓y_tupl, ↓y_tupt, ↓y_lstt, ↓y_lstl, ↓y_slt, ↓y_sll, ↓y_repr, ↓y_at0, ↓y_at1, ↓y_at2, ↓y_at3, ↓y_at4, ↓y_st1, ↓y_st2, ↓y_st3, ↓y_st4, ↓y_exd, atI_0, atI_1, atI_2, atI_3, atI_4, cut_drop1]
    refine hwide 300 _ _ _ rfl (by omega) (by omega) hh (fun d1 hd1 ht1 hd11 hn1 hh1 => ?_) _
    simp only [dSeq, dRet, dRetN, dNext, dAndV, dOrV, dNotV, dIsi, dVar, dC, dUn, dOp, dCB, dCons, dNil, dTup, dLst, dTest, dAnd, dOr, dNot, dIf, dIfS, dAsg, dPar, dDrop, dAug, dAsgT, dgName, dgNil, dgCons, dgTup, dCall, dCallX, fInT, fIxT, dSl, dPart, dNoPart, dLenV, dIxV, dSlV, dApp, dExt, dPop, dSetIx, ownQ, putO, dYes, dSeqI, dEnum, dRng1, wipeG, startG, List.map_cons, List.map_nil, List.length_cons, List.length_nil, List.replicate, List.cons_append, List.nil_append, List.getElem?_cons_zero, List.getElem?_cons_succ, List.set_cons_zero, List.set_cons_succ, Nat.reduceAdd, Nat.reduceSub, Nat.zero_add, ne_eq, reduceCtorEq, not_false_eq_true, true_and, if_true, if_false, Bool.false_eq_true, decide_eq_true_eq, decide_true, decide_false, Bool.not_true, Bool.not_false, ite_true, ite_false, reduceIte, Option.some.injEq, exists_eq_left', List.drop_succ_cons, List.drop_zero, ↓y_wdv, ↓y_wdo, ↓y_wds0, ↓y_wds1, ↓y_okv, ↓y_oko, ↓y_addi, ↓y_adds, ↓y_addt, ↓y_addl, ↓y_muli, ↓y_mull, ↓y_eqi, ↓y_eqs, ↓y_nei, ↓y_nes, ↓y_eqt, ↓y_eql, ↓y_lti, ↓y_fi, ↓y_fi0, ↓y_isb, ↓y_ixt, ↓y_ixl, ↓y_lent, ↓y_lenl, ↓y_int, ↓y_tupl, ↓y_tupt, ↓y_lstt, ↓y_lstl, ↓y_slt, ↓y_sll, ↓y_repr, ↓y_at0, ↓y_at1, ↓y_at2, ↓y_at3, ↓y_at4, ↓y_st1, ↓y_st2, ↓y_st3, ↓y_st4, ↓y_exd, atI_0, atI_1, atI_2, atI_3, atI_4, cut_drop1]
    refine hchain 40 _ _ _ rfl (by omega) (by omega) hh1 (fun d2 hd2 ht2 hd22 hn2 hh2 => ?_) _
    simp only [dSeq, dRet, dRetN, dNext, dAndV, dOrV, dNotV, dIsi, dVar, dC, dUn, dOp, dCB, dCons, dNil, dTup, dLst, dTest, dAnd, dOr, dNot, dIf, dIfS, dAsg, dPar, dDrop, dAug, dAsgT, dgName, dgNil, dgCons, dgTup, dCall, dCallX, fInT, fIxT, dSl, dPart, dNoPart, dLenV, dIxV, dSlV, dApp, dExt, dPop, dSetIx, ownQ, putO, dYes, dSeqI, dEnum, dRng1, wipeG, startG, List.map_cons, List.map_nil, List.length_cons, List.length_nil, List.replicate, List.cons_append, List.nil_append, List.getElem?_cons_zero, List.getElem?_cons_succ, List.set_cons_zero, List.set_cons_succ, Nat.reduceAdd, Nat.reduceSub, Nat.zero_add, ne_eq, reduceCtorEq, not_false_eq_true, true_and, if_true, if_false, Bool.false_eq_true, decide_eq_true_eq, decide_true, decide_false, Bool.not_true, Bool.not_false, ite_true, ite_false, reduceIte, Option.some.injEq, exists_eq_left', List.drop_succ_cons, List.drop_zero, ↓y_wdv, ↓y_wdo, ↓y_wds0, ↓y_wds1, ↓y_okv, ↓y_oko, ↓y_addi, ↓y_adds, ↓y_addt, ↓y_addl, ↓y_muli, ↓y_mull, ↓y_eqi, ↓y_eqs, ↓y_nei, ↓y_nes, ↓y_eqt, ↓y_eql, ↓y_lti, ↓y_fi, ↓y_fi0, ↓y_isb, ↓y_ixt, ↓y_ixl, ↓y_lent, ↓y_lenl, ↓y_int, ↓y_tupl, ↓y_tupt, ↓y_lstt, ↓y_lstl, ↓y_slt, ↓y_sll, ↓y_repr, ↓y_at0, ↓y_at1, ↓y_at2, ↓y_at3, ↓y_at4, ↓y_st1, ↓y_st2, ↓y_st3, ↓y_st4, ↓y_exd, atI_0, atI_1, atI_2, atI_3, atI_4, cut_drop1]
    exact hK _ ⟨hd2, d1, d2, rfl, hh2, ⟨ht1, hd11, hn1⟩, ht2, hd22, hn2⟩
  rintro Γ ⟨hd, d, e, rfl, hh, ⟨td, dd, nd1⟩, te, de, ne⟩
  refine seq_ifN (fun Γ => Γ = [.frz a (ns.map V.int), .own false hd, g2, g3, .val d, .val e, g6, g7, .unk]) (fun Q hq => ?_) ?_
  · simp only [dSeq, dRet, dRetN, dNext, dAndV, dOrV, dNotV, dIsi, dVar, dC, dUn, dOp, dCB, dCons, dNil, dTup, dLst, dTest, dAnd, dOr, dNot, dIf, dIfS, dAsg, dPar, dDrop, dAug, dAsgT, dgName, dgNil, dgCons, dgTup, dCall, dCallX, fInT, fIxT, dSl, dPart, dNoPart, dLenV, dIxV, dSlV, dApp, dExt, dPop, dSetIx, ownQ, putO, dYes, dSeqI, dEnum, dRng1, wipeG, startG, List.map_cons, List.map_nil, List.length_cons, List.length_nil, List.replicate, List.cons_append, List.nil_append, List.getElem?_cons_zero, List.getElem?_cons_succ, List.set_cons_zero, List.set_cons_succ, Nat.reduceAdd, Nat.reduceSub, Nat.zero_add, ne_eq, reduceCtorEq, not_false_eq_true, true_and, if_true, if_false, Bool.false_eq_true, decide_eq_true_eq, decide_true, decide_false, Bool.not_true, Bool.not_false, ite_true, ite_false, reduceIte, Option.some.injEq, exists_eq_left', List.drop_succ_cons, List.drop_zero, ↓y_wdv, ↓y_wdo, ↓y_wds0, ↓y_wds1, ↓y_okv, ↓y_oko, ↓y_addi, ↓y_adds, ↓y_addt, ↓y_addl, ↓y_muli, ↓y_mull, ↓y_eqi, ↓y_eqs, ↓y_nei, ↓y_nes, ↓y_eqt, ↓y_eql, ↓y_lti, ↓y_fi, ↓y_fi0, ↓y_isb, ↓y_ixt, ↓y_ixl, ↓y_lent, ↓y_lenl, ↓y_int, ↓y_tupl, ↓y_tupt, ↓y_lstt, ↓y_lstl, ↓y_slt, ↓y_sll, ↓y_repr, ↓y_at0, ↓y_at1, ↓y_at2, ↓y_at3, ↓y_at4, ↓y_st1, ↓y_st2, ↓y_st3, ↓y_st4, ↓y_exd, atI_0, atI_1, atI_2, atI_3, atI_4, cut_drop1]
    refine ⟨d, rfl, td, by omega, by omega, ?_⟩
    simp only [dSeq, dRet, dRetN, dNext, dAndV, dOrV, dNotV, dIsi, dVar, dC, dUn, dOp, dCB, dCons, dNil, dTup, dLst, dTest, dAnd, dOr, dNot, dIf, dIfS, dAsg, dPar, dDrop, dAug, dAsgT, dgName, dgNil, dgCons, dgTup, dCall, dCallX, fInT, fIxT, dSl, dPart, dNoPart, dLenV, dIxV, dSlV, dApp, dExt, dPop, dSetIx, ownQ, putO, dYes, dSeqI, dEnum, dRng1, wipeG, startG, List.map_cons, List.map_nil, List.length_cons, List.length_nil, List.replicate, List.cons_append, List.nil_append, List.getElem?_cons_zero, List.getElem?_cons_succ, List.set_cons_zero, List.set_cons_succ, Nat.reduceAdd, Nat.reduceSub, Nat.zero_add, ne_eq, reduceCtorEq, not_false_eq_true, true_and, if_true, if_false, Bool.false_eq_true, decide_eq_true_eq, decide_true, decide_false, Bool.not_true, Bool.not_false, ite_true, ite_false, reduceIte, Option.some.injEq, exists_eq_left', List.drop_succ_cons, List.drop_zero, ↓y_wdv, ↓y_wdo, ↓y_wds0, ↓y_wds1, ↓y_okv, ↓y_oko, ↓y_addi, ↓y_adds, ↓y_addt, ↓y_addl, ↓y_muli, ↓y_mull, ↓y_eqi, ↓y_eqs, ↓y_nei, ↓y_nes, ↓y_eqt, ↓y_eql, ↓y_lti, ↓y_fi, ↓y_fi0, ↓y_isb, ↓y_ixt, ↓y_ixl, ↓y_lent, ↓y_lenl, ↓y_int, ↓y_tupl, ↓y_tupt, ↓y_lstt, ↓y_lstl, ↓y_slt, ↓y_sll, ↓y_repr, ↓y_at0, ↓y_at1, ↓y_at2, ↓y_at3, ↓y_at4, ↓y_st1, ↓y_st2, ↓y_st3, ↓y_st4, ↓y_exd, atI_0, atI_1, atI_2, atI_3, atI_4, cut_drop1]
    refine ⟨e, rfl, te, by omega, by omega, ?_⟩
    exact hq _ rfl
  rintro Γ rfl
  have s1 : isTree (.tuple [.str "s", d]) = false := isTree_false fun q => by
    have := q.2.2
    rw [nd_node, nds, nds] at this
    omega
  have s2 : isTree (.tuple [.str "s", e]) = false := isTree_false fun q => by
    have := q.2.1
    rw [dp_node, dps, dps] at this
    omega
  have s3 : isTree (.tuple [.str "h", .tuple [.str "a"], .tuple [.str "b"], .tuple [.str "c"]]) = true := by decide +kernel
  simp only [dSeq, dRet, dRetN, dNext, dAndV, dOrV, dNotV, dIsi, dVar, dC, dUn, dOp, dCB, dCons, dNil, dTup, dLst, dTest, dAnd, dOr, dNot, dIf, dIfS, dAsg, dPar, dDrop, dAug, dAsgT, dgName, dgNil, dgCons, dgTup, dCall, dCallX, fInT, fIxT, dSl, dPart, dNoPart, dLenV, dIxV, dSlV, dApp, dExt, dPop, dSetIx, ownQ, putO, dYes, dSeqI, dEnum, dRng1, wipeG, startG, List.map_cons, List.map_nil, List.length_cons, List.length_nil, List.replicate, List.cons_append, List.nil_append, List.getElem?_cons_zero, List.getElem?_cons_succ, List.set_cons_zero, List.set_cons_succ, Nat.reduceAdd, Nat.reduceSub, Nat.zero_add, ne_eq, reduceCtorEq, not_false_eq_true, true_and, if_true, if_false, Bool.false_eq_true, decide_eq_true_eq, decide_true, decide_false, Bool.not_true, Bool.not_false, ite_true, ite_false, reduceIte, Option.some.injEq, exists_eq_left', List.drop_succ_cons, List.drop_zero, ↓y_wdv, ↓y_wdo, ↓y_wds0, ↓y_wds1, ↓y_okv, ↓y_oko, ↓y_addi, ↓y_adds, ↓y_addt, ↓y_addl, ↓y_muli, ↓y_mull, ↓y_eqi, ↓y_eqs, ↓y_nei, ↓y_nes, ↓y_eqt, ↓y_eql, ↓y_lti, ↓y_fi, ↓y_fi0, ↓y_isb, ↓y_ixt, ↓y_ixl, ↓y_lent, ↓y_lenl, ↓y_int, ↓y_tupl, ↓y_tupt, ↓y_lstt, ↓y_lstl, ↓y_slt, ↓y_sll, ↓y_repr, ↓y_at0, ↓y_at1, ↓y_at2, ↓y_at3, ↓y_at4, ↓y_st1, ↓y_st2, ↓y_st3, ↓y_st4, ↓y_exd, atI_0, atI_1, atI_2, atI_3, atI_4, cut_drop1]
  refine ⟨small (by simp), _, rfl, s1, ?_⟩
  simp only [dSeq, dRet, dRetN, dNext, dAndV, dOrV, dNotV, dIsi, dVar, dC, dUn, dOp, dCB, dCons, dNil, dTup, dLst, dTest, dAnd, dOr, dNot, dIf, dIfS, dAsg, dPar, dDrop, dAug, dAsgT, dgName, dgNil, dgCons, dgTup, dCall, dCallX, fInT, fIxT, dSl, dPart, dNoPart, dLenV, dIxV, dSlV, dApp, dExt, dPop, dSetIx, ownQ, putO, dYes, dSeqI, dEnum, dRng1, wipeG, startG, List.map_cons, List.map_nil, List.length_cons, List.length_nil, List.replicate, List.cons_append, List.nil_append, List.getElem?_cons_zero, List.getElem?_cons_succ, List.set_cons_zero, List.set_cons_succ, Nat.reduceAdd, Nat.reduceSub, Nat.zero_add, ne_eq, reduceCtorEq, not_false_eq_true, true_and, if_true, if_false, Bool.false_eq_true, decide_eq_true_eq, decide_true, decide_false, Bool.not_true, Bool.not_false, ite_true, ite_false, reduceIte, Option.some.injEq, exists_eq_left', List.drop_succ_cons, List.drop_zero, ↓y_wdv, ↓y_wdo, ↓y_wds0, ↓y_wds1, ↓y_okv, ↓y_oko, ↓y_addi, ↓y_adds, ↓y_addt, ↓y_addl, ↓y_muli, ↓y_mull, ↓y_eqi, ↓y_eqs, ↓y_nei, ↓y_nes, ↓y_eqt, ↓y_eql, ↓y_lti, ↓y_fi, ↓y_fi0, ↓y_isb, ↓y_ixt, ↓y_ixl, ↓y_lent, ↓y_lenl, ↓y_int, ↓y_tupl, ↓y_tupt, ↓y_lstt, ↓y_lstl, ↓y_slt, ↓y_sll, ↓y_repr, ↓y_at0, ↓y_at1, ↓y_at2, ↓y_at3, ↓y_at4, ↓y_st1, ↓y_st2, ↓y_st3, ↓y_st4, ↓y_exd, atI_0, atI_1, atI_2, atI_3, atI_4, cut_drop1]
  refine ⟨small (by simp), _, rfl, s2, ?_⟩
  simp only [dSeq, dRet, dRetN, dNext, dAndV, dOrV, dNotV, dIsi, dVar, dC, dUn, dOp, dCB, dCons, dNil, dTup, dLst, dTest, dAnd, dOr, dNot, dIf, dIfS, dAsg, dPar, dDrop, dAug, dAsgT, dgName, dgNil, dgCons, dgTup, dCall, dCallX, fInT, fIxT, dSl, dPart, dNoPart, dLenV, dIxV, dSlV, dApp, dExt, dPop, dSetIx, ownQ, putO, dYes, dSeqI, dEnum, dRng1, wipeG, startG, List.map_cons, List.map_nil, List.length_cons, List.length_nil, List.replicate, List.cons_append, List.nil_append, List.getElem?_cons_zero, List.getElem?_cons_succ, List.set_cons_zero, List.set_cons_succ, Nat.reduceAdd, Nat.reduceSub, Nat.zero_add, ne_eq, reduceCtorEq, not_false_eq_true, true_and, if_true, if_false, Bool.false_eq_true, decide_eq_true_eq, decide_true, decide_false, Bool.not_true, Bool.not_false, ite_true, ite_false, reduceIte, Option.some.injEq, exists_eq_left', List.drop_succ_cons, List.drop_zero, ↓y_wdv, ↓y_wdo, ↓y_wds0, ↓y_wds1, ↓y_okv, ↓y_oko, ↓y_addi, ↓y_adds, ↓y_addt, ↓y_addl, ↓y_muli, ↓y_mull, ↓y_eqi, ↓y_eqs, ↓y_nei, ↓y_nes, ↓y_eqt, ↓y_eql, ↓y_lti, ↓y_fi, ↓y_fi0, ↓y_isb, ↓y_ixt, ↓y_ixl, ↓y_lent, ↓y_lenl, ↓y_int, ↓y_tupl, ↓y_tupt, ↓y_lstt, ↓y_lstl, ↓y_slt, ↓y_sll, ↓y_repr, ↓y_at0, ↓y_at1, ↓y_at2, ↓y_at3, ↓y_at4, ↓y_st1, ↓y_st2, ↓y_st3, ↓y_st4, ↓y_exd, atI_0, atI_1, atI_2, atI_3, atI_4, cut_drop1]
  refine ⟨small (by simp), small (by simp), small (by simp), small (by simp), _, rfl, ?_⟩
  rw [s3]
  exact ⟨(fun z => nomatch z), h⟩
end K00

namespace K00
open PySem PySem.Spec PyProof.Rows L2 LamX DL
def d_is_sign : He.DefD := ⟨("is_sign", none), "is_sign", "is_sign", defArgs s_is_sign, defBody s_is_sign, defScope s_is_sign, [], []⟩
def d_has_form : He.DefD := ⟨("has_form", none), "has_form", "has_form", defArgs s_has_form, defBody s_has_form, defScope s_has_form, [], []⟩
def d_is_tree : He.DefD := ⟨("is_tree", none), "is_tree", "is_tree", defArgs s_is_tree, defBody s_is_tree, defScope s_is_tree, [], []⟩
def d_check_tree : He.DefD := ⟨("check_tree", none), "check_tree", "check_tree", defArgs s_check_tree, defBody s_check_tree, defScope s_check_tree, [], []⟩
def d_node_rows : He.DefD := ⟨("node_rows", none), "node_rows", "node_rows", defArgs s_node_rows, defBody s_node_rows, defScope s_node_rows, [], []⟩
def d_raw_nodes : He.DefD := ⟨("raw_nodes", none), "raw_nodes", "raw_nodes", defArgs s_raw_nodes, defBody s_raw_nodes, defScope s_raw_nodes, [], []⟩
def d_nodes_many : He.DefD := ⟨("nodes_many", none), "nodes_many", "nodes_many", defArgs s_nodes_many, defBody s_nodes_many, defScope s_nodes_many, [], []⟩
def d_deep : He.DefD := ⟨("deep", none), "deep", "deep", defArgs s_deep, defBody s_deep, defScope s_deep, [], []⟩
def d_raw_signs : He.DefD := ⟨("raw_signs", none), "raw_signs", "raw_signs", defArgs s_raw_signs, defBody s_raw_signs, defScope s_raw_signs, [], []⟩
def d_signs_in : He.DefD := ⟨("signs_in", none), "signs_in", "signs_in", defArgs s_signs_in, defBody s_signs_in, defScope s_signs_in, [], []⟩
def d_paths_of : He.DefD := ⟨("paths_of", none), "paths_of", "paths_of", defArgs s_paths_of, defBody s_paths_of, defScope s_paths_of, [], []⟩
def d_mirrored : He.DefD := ⟨("mirrored", none), "mirrored", "mirrored", defArgs s_mirrored, defBody s_mirrored, defScope s_mirrored, [], []⟩
def d_tree_text : He.DefD := ⟨("tree_text", none), "tree_text", "tree_text", defArgs s_tree_text, defBody s_tree_text, defScope s_tree_text, [], []⟩
def d_lines_of : He.DefD := ⟨("lines_of", none), "lines_of", "lines_of", defArgs s_lines_of, defBody s_lines_of, defScope s_lines_of, [], []⟩
def d_ulaw_hand : He.DefD := ⟨("_law_hand", none), "_law_hand", "_law_hand", defArgs s_ulaw_hand, defBody s_ulaw_hand, defScope s_ulaw_hand, [], []⟩
def d_ulaw_draw : He.DefD := ⟨("_law_draw", none), "_law_draw", "_law_draw", defArgs s_ulaw_draw, defBody s_ulaw_draw, defScope s_ulaw_draw, [], []⟩
def d_ulaw_some : He.DefD := ⟨("_law_some", none), "_law_some", "_law_some", defArgs s_ulaw_some, defBody s_ulaw_some, defScope s_ulaw_some, [], []⟩
def d_ulaw_ranks : He.DefD := ⟨("_law_ranks", none), "_law_ranks", "_law_ranks", defArgs s_ulaw_ranks, defBody s_ulaw_ranks, defScope s_ulaw_ranks, [], []⟩
def d_ulaw_tree : He.DefD := ⟨("_law_tree", none), "_law_tree", "_law_tree", defArgs s_ulaw_tree, defBody s_ulaw_tree, defScope s_ulaw_tree, [], []⟩
def d_ulaw_wide : He.DefD := ⟨("_law_wide", none), "_law_wide", "_law_wide", defArgs s_ulaw_wide, defBody s_ulaw_wide, defScope s_ulaw_wide, [], []⟩
def d_ulaw_chain : He.DefD := ⟨("_law_chain", none), "_law_chain", "_law_chain", defArgs s_ulaw_chain, defBody s_ulaw_chain, defScope s_ulaw_chain, [], []⟩
def d_ulaw_nodes : He.DefD := ⟨("_law_nodes", none), "_law_nodes", "_law_nodes", defArgs s_ulaw_nodes, defBody s_ulaw_nodes, defScope s_ulaw_nodes, [], []⟩
def d_ulaw_deep : He.DefD := ⟨("_law_deep", none), "_law_deep", "_law_deep", defArgs s_ulaw_deep, defBody s_ulaw_deep, defScope s_ulaw_deep, [], []⟩
def d_ulaw_signs : He.DefD := ⟨("_law_signs", none), "_law_signs", "_law_signs", defArgs s_ulaw_signs, defBody s_ulaw_signs, defScope s_ulaw_signs, [], []⟩
def d_ulaw_paths : He.DefD := ⟨("_law_paths", none), "_law_paths", "_law_paths", defArgs s_ulaw_paths, defBody s_ulaw_paths, defScope s_ulaw_paths, [], []⟩
def d_ulaw_put : He.DefD := ⟨("_law_put", none), "_law_put", "_law_put", defArgs s_ulaw_put, defBody s_ulaw_put, defScope s_ulaw_put, [], []⟩
def d_ulaw_no_tree : He.DefD := ⟨("_law_no_tree", none), "_law_no_tree", "_law_no_tree", defArgs s_ulaw_no_tree, defBody s_ulaw_no_tree, defScope s_ulaw_no_tree, [], []⟩
def d_ulaw_word : He.DefD := ⟨("_law_word", none), "_law_word", "_law_word", defArgs s_ulaw_word, defBody s_ulaw_word, defScope s_ulaw_word, [], []⟩
def d_ulaw_is_right : He.DefD := ⟨("_law_is_right", none), "_law_is_right", "_law_is_right", defArgs s_ulaw_is_right, defBody s_ulaw_is_right, defScope s_ulaw_is_right, [], []⟩
def d_ulaw_is_refused : He.DefD := ⟨("_law_is_refused", none), "_law_is_refused", "_law_is_refused", defArgs s_ulaw_is_refused, defBody s_ulaw_is_refused, defScope s_ulaw_is_refused, [], []⟩
def d_law : He.DefD := ⟨("law", none), "law", "law", defArgs s_law, defBody s_law, defScope s_law, [], []⟩
def fnL : List He.DefD := [d_is_sign, d_has_form, d_is_tree, d_check_tree, d_node_rows, d_raw_nodes, d_nodes_many, d_deep, d_raw_signs, d_signs_in, d_paths_of, d_mirrored, d_tree_text, d_lines_of, d_ulaw_hand, d_ulaw_draw, d_ulaw_some, d_ulaw_ranks, d_ulaw_tree, d_ulaw_wide, d_ulaw_chain, d_ulaw_nodes, d_ulaw_deep, d_ulaw_signs, d_ulaw_paths, d_ulaw_put, d_ulaw_no_tree, d_ulaw_word, d_ulaw_is_right, d_ulaw_is_refused, d_law]
def tsL : List He.Tab := [(fun K => He.ga K "RANKS", ["a", "b", "c", "f", "g", "h", "s", "t"])]
def tfL : List He.Defn := [("_law_is_refused", none)]
def faL : List He.Fa := ((([.glo "is_sign", .glo "has_form", .glo "is_tree", .glo "check_tree", .glo "node_rows", .glo "raw_nodes", .glo "nodes_many", .glo "deep", .glo "raw_signs", .glo "signs_in", .glo "paths_of", .glo "mirrored"] : List He.Fa) ++ ([.glo "tree_text", .glo "lines_of", .glo "_law_hand", .glo "_law_draw", .glo "_law_some", .glo "_law_ranks", .glo "_law_tree", .glo "_law_wide", .glo "_law_chain", .glo "_law_nodes", .glo "_law_deep", .glo "_law_signs"] : List He.Fa) ++ ([.glo "_law_paths", .glo "_law_put", .glo "_law_no_tree", .glo "_law_word", .glo "_law_is_right", .glo "_law_is_refused", .glo "law"] : List He.Fa)) ++ (([.glo "NoTree", .glo "TellError", .glo "RANKS", .exc "NoTree", .exm "NoTree" "TellError" true, .int "MOST_NODES" 300, .int "MOST_DEEP" 40] : List He.Fa))) ++ builtL.map He.Fa.free
def kvR : List (Str × He.Dv) := [("a", .int 0), ("b", .int 0), ("c", .int 0), ("f", .int 2), ("g", .int 2), ("h", .int 3), ("s", .int 1), ("t", .int 1)]
/-- what the written error class says, so that isinstance asks rightly -/
def excB (K : PySem.W.Frag) (C : Addr) : Bool := decide (PySem.W.findIn K (.ref C) "__getattribute__" = some (some (.builtin "BaseException.__getattribute__"))) && (decide (PySem.W.findIn K (.ref C) "__getattr__" = some none) && (decide (PySem.W.subIn K (.ref C) (.type "BaseException") = some true) && (PySem.W.hasDictIn K C && (decide (PySem.W.findIn K (.ref C) "__class__" = some (some (.builtin "object.__class__"))) &&
  (decide (PySem.W.specialIn K (.builtin "object.__class__") "__get__" = some (some (.builtin "getset_descriptor.__get__"))) && (decide (PySem.W.takesIn K (.builtin "object.__class__") = some true) && decide (PySem.W.mroIn K C (.type "object") = some true)))))))
theorem excB_ok {K : PySem.W.Frag} {C : Addr} (h : excB K C = true) : ExcC K C := by
  unfold excB at h
  simp only [Bool.and_eq_true, decide_eq_true_eq] at h
  obtain ⟨h1, h2, h3, h4, h5, h6, h7, h8⟩ := h
  exact ⟨h1, h2, h3, h4, h5, h6, h7, h8⟩
def moreB (K : PySem.W.Frag) : Bool := He.valsB K (He.ga K "RANKS") kvR && (excB K (He.ga K "NoTree") && (decide (PySem.W.kitOne K (.ref (He.ga K "NoTree")) (.ref (He.ga K "NoTree")) = some true) && (decide (PySem.W.kitOne K (.ref (He.ga K "NoTree")) (.type "ValueError") = some true) &&
  (PySem.W.codeHdIn K (He.cT K ("_law_is_refused", none)).1 (He.cT K ("_law_is_refused", none)).2 && (K.lookup (He.cT K ("_law_is_refused", none)).2).isNone))))
def tabA (K : PySem.W.Frag) : List (Addr × Str) := [((He.cT K ("_law_is_refused", none)).2, (envOfC "_law_is_refused" (defScope s_ulaw_is_refused) 0 0 .none).qual ++ ("<lambda>" : Str))]
theorem w_word {K : PySem.W.Frag} {mg : Str → Option Value} {CS D : Addr} (D0 : DefAt K mg "_law_word" s_ulaw_word ["call"]) (B : Bi mg builtL) (gD : mg "NoTree" = some (.ref D)) (gC : mg "TellError" = some (.ref CS)) (hex : PySem.W.exmOne K (.ref D) (.ref CS) = some true) (EC : ExcC K D)
    (k1 : PySem.W.kitOne K (.ref D) (.ref D) = some true) (k2 : PySem.W.kitOne K (.ref D) (.type "ValueError") = some true) : ∀ X : Cx, X.mg = mg → X.K = K → WordDef X "_law_word" D "tree" "told" := by
  intro X hm hK
  subst hm
  subst hK
  obtain ⟨f, fd, F, hmf, hb⟩ := D0.ex
  obtain ⟨oc, od, kV, doc, pm, an, cdv, ct, osl, rfl, lk, hcd⟩ := F.ex
  exact ⟨f, "call", defArgs s_ulaw_word, defBody s_ulaw_word, defScope s_ulaw_word, .none, kV, doc, pm, cdv, ct, oc, an, od, osl, ["call", "error"], hmf, F.kp, lk, hcd, hb, sc_ulaw_word, rfl, .inl rfl,
    fun q => word_gives (n := "error") (e := "TellError") (c1 := "NoTree") (c2 := "ValueError") (a := "call") sc_ulaw_word.nd rfl rfl rfl gC (by decide) rfl (B "isinstance" (by decide)) rfl gD (by decide) rfl (B "ValueError" (by decide)) (by decide +kernel) (by decide) (by decide) (by decide) (by decide) hex EC k1 k2 (fun _ => rfl), by decide, by decide⟩
theorem dicW_get {K : PySem.W.Frag} {w : World} {a : Addr} {ks : List Str} (h : He.dicW K a = some (He.keysIn w.params ks)) : ∃ es n, K.lookup a = some ⟨.type "dict", none, .dict es n, #[]⟩ ∧ PySem.W.KeysLit w.params es.toList ∧ (a == sysModules) = false ∧ es.toList.map He.keyOf = He.keysIn w.params ks := by
  obtain ⟨es, n, D⟩ := He.dicW_ok h
  refine ⟨es, n, D.at_, D.lit, D.low, ?_⟩
  unfold He.dicW at h
  rw [D.at_] at h
  have h1 : (match decide (("dict" : String) = "dict") && ((#[] : Array (Option Value)).isEmpty && !(a == sysModules)) with
    | true => some (es.toList.map He.keyOf)
    | false => none) = some (He.keysIn w.params ks) := h
  rw [D.low] at h1
  exact Option.some.inj h1
theorem tab_ok {K : PySem.W.Frag} {w : World} (hd : ∃ es n, K.lookup (He.ga K "RANKS") = some ⟨.type "dict", none, .dict es n, #[]⟩ ∧ PySem.W.KeysLit w.params es.toList ∧ (He.ga K "RANKS" == sysModules) = false ∧ es.toList.map He.keyOf = He.keysIn w.params ["a", "b", "c", "f", "g", "h", "s", "t"]) (hv : He.valsB K (He.ga K "RANKS") kvR = true) : KTab K w (He.ga K "RANKS") tab_RANKS := by
  obtain ⟨es, n, h1, h2, h3, h4⟩ := hd
  refine ⟨⟨es, n, h1, h2, h3⟩, fun z => ?_⟩
  have e : tab_RANKS.lookup z = (rank z).map PyData.int := tab_lookup z
  rw [e]
  cases hz : rank z with
  | some k =>
    have mem : ∀ l : List (Str × Int), l.lookup z = some k → (z, k) ∈ l := by
      intro l
      induction l with
      | nil => intro e; cases e
      | cons q r ih =>
        intro e
        rw [List.lookup_cons] at e
        cases c : z == q.1 with
        | true =>
          rw [c] at e
          cases e
          rw [beq_iff_eq.mp c]
          exact List.mem_cons_self
        | false => rw [c] at e; exact List.mem_cons_of_mem _ (ih e)
    have hm : (z, He.Dv.int k) ∈ kvR := by
      have : kvR = rkL.map fun q => (q.1, He.Dv.int q.2) := rfl
      rw [this]
      exact List.mem_map.mpr ⟨(z, k), mem _ hz, rfl⟩
    obtain ⟨u, h5, h6⟩ := He.valsB_ok hv hm
    exact ⟨u, .int k, h5, h6, fun _ _ => .int k⟩
  | none =>
    show PySem.W.nsIn K (He.ga K "RANKS") z = some none
    have hnot : ∀ q ∈ es.toList, q.key.isStr z = false ∧ q.refKey = false := by
      intro q hq
      have : He.keyOf q ∈ He.keysIn w.params ["a", "b", "c", "f", "g", "h", "s", "t"] := by rw [← h4]; exact List.mem_map.mpr ⟨q, hq, rfl⟩
      obtain ⟨y, hy, e⟩ := List.mem_map.mp this
      have hy2 : z ≠ y := fun q => by
        subst q
        have : ∀ l : List (Str × Int), z ∈ l.map (·.1) → (l.lookup z).isSome = true := by
          intro l
          induction l with
          | nil => intro h; cases h
          | cons q r ih =>
            intro h
            rw [List.lookup_cons]
            cases c : z == q.1 with
            | true => rfl
            | false =>
              rcases List.mem_cons.mp h with e | h
              · rw [e, beq_self_eq_true] at c; cases c
              · exact ih h
        have h7 := this rkL hy
        have h8 : (rkL.lookup z) = none := hz
        rw [h8] at h7
        cases h7
      unfold He.keyOf at e
      split at e
      · rename_i x t hk
        have e2 := Option.some.inj e
        have e3 : y = x := (Prod.mk.inj e2).1
        refine ⟨?_, ?_⟩
        · rw [hk]
          show (x == z) = false
          rw [← e3]
          exact beq_eq_false_iff_ne.mpr (Ne.symm hy2)
        · unfold DictEntry.refKey
          rw [hk]
      · cases e
    unfold PySem.W.nsIn
    rw [h1]
    have f1 : es.toList.find? (fun q => q.key.isStr z) = none := List.find?_eq_none.mpr fun q hq => by rw [(hnot q hq).1]; exact Bool.false_ne_true
    have f2 : es.toList.any (·.refKey) = false := by
      rw [List.any_eq_false]
      intro q hq
      rw [(hnot q hq).2]
      exact Bool.false_ne_true
    dsimp only
    rw [f1, f2]
    rfl
end K00

namespace K00
open PySem PySem.Spec PyProof.Rows L2 LamX DL
section
variable {l : PySem.W.OpenLaw} {w : World} {K : PySem.W.Frag} {mg : Str → Option Value} {fa : Addr} {h : Heap}
theorem noneP {P : Program} {w : World} {K : PySem.W.Frag} {mg : Str → Option Value} {base : Heap} {CX : CXT} {k : Nat} {x : Str} {st : Stmt} {ps : List Str} {T : List (Addr × Str)} {ds : SpP} (D : DefAt K mg x st ps) (h : ∀ as Q R, ¬ ds as Q R) : Cal P w K mg base CX k x (liftP K T ds) := D.none fun vs H Q E z => by
  obtain ⟨O, as, Q0, R0, _, _, _, z, _⟩ := z
  exact h _ _ _ z
theorem noneH {P : Program} {w : World} {K : PySem.W.Frag} {mg : Str → Option Value} {base : Heap} {CX : CXT} {k : Nat} {x : Str} {st : Stmt} {ps : List Str} {T : List (Addr × Str)} {ds : SpH} (D : DefAt K mg x st ps) (h : ∀ hd as Q R, ¬ ds hd as Q R) : Cal P w K mg base CX k x (liftH K T ds) := D.none fun vs H Q E z => by
  obtain ⟨O, a, ws, hx, hd, as, Q0, R0, _, _, _, _, _, _, _, z, _⟩ := z
  exact h _ _ _ _ z
theorem at_is_sign (X : K.In h) (G : h.Ns mainGlobals mg) (c : He.SaysD faL fnL K) : DefAt K mg "is_sign" s_is_sign ["thing"] := defAt_of c X G (d := d_is_sign) (List.mem_of_getElem? (i := 0) rfl) (List.mem_of_getElem? (i := 0) rfl) rfl (fun _ _ _ _ _ _ us hl => match us, hl with | [_], _ => rfl)
theorem at_has_form (X : K.In h) (G : h.Ns mainGlobals mg) (c : He.SaysD faL fnL K) : DefAt K mg "has_form" s_has_form ["thing"] := defAt_of c X G (d := d_has_form) (List.mem_of_getElem? (i := 1) rfl) (List.mem_of_getElem? (i := 1) rfl) rfl (fun _ _ _ _ _ _ us hl => match us, hl with | [_], _ => rfl)
theorem at_is_tree (X : K.In h) (G : h.Ns mainGlobals mg) (c : He.SaysD faL fnL K) : DefAt K mg "is_tree" s_is_tree ["thing"] := defAt_of c X G (d := d_is_tree) (List.mem_of_getElem? (i := 2) rfl) (List.mem_of_getElem? (i := 2) rfl) rfl (fun _ _ _ _ _ _ us hl => match us, hl with | [_], _ => rfl)
theorem at_check_tree (X : K.In h) (G : h.Ns mainGlobals mg) (c : He.SaysD faL fnL K) : DefAt K mg "check_tree" s_check_tree ["thing"] := defAt_of c X G (d := d_check_tree) (List.mem_of_getElem? (i := 3) rfl) (List.mem_of_getElem? (i := 3) rfl) rfl (fun _ _ _ _ _ _ us hl => match us, hl with | [_], _ => rfl)
theorem at_node_rows (X : K.In h) (G : h.Ns mainGlobals mg) (c : He.SaysD faL fnL K) : DefAt K mg "node_rows" s_node_rows ["tree"] := defAt_of c X G (d := d_node_rows) (List.mem_of_getElem? (i := 4) rfl) (List.mem_of_getElem? (i := 4) rfl) rfl (fun _ _ _ _ _ _ us hl => match us, hl with | [_], _ => rfl)
theorem at_raw_nodes (X : K.In h) (G : h.Ns mainGlobals mg) (c : He.SaysD faL fnL K) : DefAt K mg "raw_nodes" s_raw_nodes ["tree"] := defAt_of c X G (d := d_raw_nodes) (List.mem_of_getElem? (i := 5) rfl) (List.mem_of_getElem? (i := 5) rfl) rfl (fun _ _ _ _ _ _ us hl => match us, hl with | [_], _ => rfl)
theorem at_nodes_many (X : K.In h) (G : h.Ns mainGlobals mg) (c : He.SaysD faL fnL K) : DefAt K mg "nodes_many" s_nodes_many ["tree"] := defAt_of c X G (d := d_nodes_many) (List.mem_of_getElem? (i := 6) rfl) (List.mem_of_getElem? (i := 6) rfl) rfl (fun _ _ _ _ _ _ us hl => match us, hl with | [_], _ => rfl)
theorem at_deep (X : K.In h) (G : h.Ns mainGlobals mg) (c : He.SaysD faL fnL K) : DefAt K mg "deep" s_deep ["tree"] := defAt_of c X G (d := d_deep) (List.mem_of_getElem? (i := 7) rfl) (List.mem_of_getElem? (i := 7) rfl) rfl (fun _ _ _ _ _ _ us hl => match us, hl with | [_], _ => rfl)
theorem at_raw_signs (X : K.In h) (G : h.Ns mainGlobals mg) (c : He.SaysD faL fnL K) : DefAt K mg "raw_signs" s_raw_signs ["tree"] := defAt_of c X G (d := d_raw_signs) (List.mem_of_getElem? (i := 8) rfl) (List.mem_of_getElem? (i := 8) rfl) rfl (fun _ _ _ _ _ _ us hl => match us, hl with | [_], _ => rfl)
theorem at_signs_in (X : K.In h) (G : h.Ns mainGlobals mg) (c : He.SaysD faL fnL K) : DefAt K mg "signs_in" s_signs_in ["tree"] := defAt_of c X G (d := d_signs_in) (List.mem_of_getElem? (i := 9) rfl) (List.mem_of_getElem? (i := 9) rfl) rfl (fun _ _ _ _ _ _ us hl => match us, hl with | [_], _ => rfl)
theorem at_paths_of (X : K.In h) (G : h.Ns mainGlobals mg) (c : He.SaysD faL fnL K) : DefAt K mg "paths_of" s_paths_of ["tree"] := defAt_of c X G (d := d_paths_of) (List.mem_of_getElem? (i := 10) rfl) (List.mem_of_getElem? (i := 10) rfl) rfl (fun _ _ _ _ _ _ us hl => match us, hl with | [_], _ => rfl)
theorem at_mirrored (X : K.In h) (G : h.Ns mainGlobals mg) (c : He.SaysD faL fnL K) : DefAt K mg "mirrored" s_mirrored ["tree"] := defAt_of c X G (d := d_mirrored) (List.mem_of_getElem? (i := 11) rfl) (List.mem_of_getElem? (i := 11) rfl) rfl (fun _ _ _ _ _ _ us hl => match us, hl with | [_], _ => rfl)
theorem at_tree_text (X : K.In h) (G : h.Ns mainGlobals mg) (c : He.SaysD faL fnL K) : DefAt K mg "tree_text" s_tree_text ["tree"] := defAt_of c X G (d := d_tree_text) (List.mem_of_getElem? (i := 12) rfl) (List.mem_of_getElem? (i := 12) rfl) rfl (fun _ _ _ _ _ _ us hl => match us, hl with | [_], _ => rfl)
theorem at_lines_of (X : K.In h) (G : h.Ns mainGlobals mg) (c : He.SaysD faL fnL K) : DefAt K mg "lines_of" s_lines_of ["tree"] := defAt_of c X G (d := d_lines_of) (List.mem_of_getElem? (i := 13) rfl) (List.mem_of_getElem? (i := 13) rfl) rfl (fun _ _ _ _ _ _ us hl => match us, hl with | [_], _ => rfl)
theorem at_ulaw_hand (X : K.In h) (G : h.Ns mainGlobals mg) (c : He.SaysD faL fnL K) : DefAt K mg "_law_hand" s_ulaw_hand ["script"] := defAt_of c X G (d := d_ulaw_hand) (List.mem_of_getElem? (i := 14) rfl) (List.mem_of_getElem? (i := 14) rfl) rfl (fun _ _ _ _ _ _ us hl => match us, hl with | [_], _ => rfl)
theorem at_ulaw_draw (X : K.In h) (G : h.Ns mainGlobals mg) (c : He.SaysD faL fnL K) : DefAt K mg "_law_draw" s_ulaw_draw ["hand", "many"] := defAt_of c X G (d := d_ulaw_draw) (List.mem_of_getElem? (i := 15) rfl) (List.mem_of_getElem? (i := 15) rfl) rfl (fun _ _ _ _ _ _ us hl => match us, hl with | [_, _], _ => rfl)
theorem at_ulaw_some (X : K.In h) (G : h.Ns mainGlobals mg) (c : He.SaysD faL fnL K) : DefAt K mg "_law_some" s_ulaw_some ["hand", "things"] := defAt_of c X G (d := d_ulaw_some) (List.mem_of_getElem? (i := 16) rfl) (List.mem_of_getElem? (i := 16) rfl) rfl (fun _ _ _ _ _ _ us hl => match us, hl with | [_, _], _ => rfl)
theorem at_ulaw_ranks (X : K.In h) (G : h.Ns mainGlobals mg) (c : He.SaysD faL fnL K) : DefAt K mg "_law_ranks" s_ulaw_ranks [] := defAt_of c X G (d := d_ulaw_ranks) (List.mem_of_getElem? (i := 17) rfl) (List.mem_of_getElem? (i := 17) rfl) rfl (fun _ _ _ _ _ _ us hl => match us, hl with | [], _ => rfl)
theorem at_ulaw_tree (X : K.In h) (G : h.Ns mainGlobals mg) (c : He.SaysD faL fnL K) : DefAt K mg "_law_tree" s_ulaw_tree ["hand", "far"] := defAt_of c X G (d := d_ulaw_tree) (List.mem_of_getElem? (i := 18) rfl) (List.mem_of_getElem? (i := 18) rfl) rfl (fun _ _ _ _ _ _ us hl => match us, hl with | [_, _], _ => rfl)
theorem at_ulaw_wide (X : K.In h) (G : h.Ns mainGlobals mg) (c : He.SaysD faL fnL K) : DefAt K mg "_law_wide" s_ulaw_wide ["hand", "many"] := defAt_of c X G (d := d_ulaw_wide) (List.mem_of_getElem? (i := 19) rfl) (List.mem_of_getElem? (i := 19) rfl) rfl (fun _ _ _ _ _ _ us hl => match us, hl with | [_, _], _ => rfl)
theorem at_ulaw_chain (X : K.In h) (G : h.Ns mainGlobals mg) (c : He.SaysD faL fnL K) : DefAt K mg "_law_chain" s_ulaw_chain ["hand", "many"] := defAt_of c X G (d := d_ulaw_chain) (List.mem_of_getElem? (i := 20) rfl) (List.mem_of_getElem? (i := 20) rfl) rfl (fun _ _ _ _ _ _ us hl => match us, hl with | [_, _], _ => rfl)
theorem at_ulaw_nodes (X : K.In h) (G : h.Ns mainGlobals mg) (c : He.SaysD faL fnL K) : DefAt K mg "_law_nodes" s_ulaw_nodes ["tree"] := defAt_of c X G (d := d_ulaw_nodes) (List.mem_of_getElem? (i := 21) rfl) (List.mem_of_getElem? (i := 21) rfl) rfl (fun _ _ _ _ _ _ us hl => match us, hl with | [_], _ => rfl)
theorem at_ulaw_deep (X : K.In h) (G : h.Ns mainGlobals mg) (c : He.SaysD faL fnL K) : DefAt K mg "_law_deep" s_ulaw_deep ["tree"] := defAt_of c X G (d := d_ulaw_deep) (List.mem_of_getElem? (i := 22) rfl) (List.mem_of_getElem? (i := 22) rfl) rfl (fun _ _ _ _ _ _ us hl => match us, hl with | [_], _ => rfl)
theorem at_ulaw_signs (X : K.In h) (G : h.Ns mainGlobals mg) (c : He.SaysD faL fnL K) : DefAt K mg "_law_signs" s_ulaw_signs ["tree"] := defAt_of c X G (d := d_ulaw_signs) (List.mem_of_getElem? (i := 23) rfl) (List.mem_of_getElem? (i := 23) rfl) rfl (fun _ _ _ _ _ _ us hl => match us, hl with | [_], _ => rfl)
theorem at_ulaw_paths (X : K.In h) (G : h.Ns mainGlobals mg) (c : He.SaysD faL fnL K) : DefAt K mg "_law_paths" s_ulaw_paths ["tree"] := defAt_of c X G (d := d_ulaw_paths) (List.mem_of_getElem? (i := 24) rfl) (List.mem_of_getElem? (i := 24) rfl) rfl (fun _ _ _ _ _ _ us hl => match us, hl with | [_], _ => rfl)
theorem at_ulaw_put (X : K.In h) (G : h.Ns mainGlobals mg) (c : He.SaysD faL fnL K) : DefAt K mg "_law_put" s_ulaw_put ["tree", "path", "other"] := defAt_of c X G (d := d_ulaw_put) (List.mem_of_getElem? (i := 25) rfl) (List.mem_of_getElem? (i := 25) rfl) rfl (fun _ _ _ _ _ _ us hl => match us, hl with | [_, _, _], _ => rfl)
theorem at_ulaw_no_tree (X : K.In h) (G : h.Ns mainGlobals mg) (c : He.SaysD faL fnL K) : DefAt K mg "_law_no_tree" s_ulaw_no_tree ["hand", "tree"] := defAt_of c X G (d := d_ulaw_no_tree) (List.mem_of_getElem? (i := 26) rfl) (List.mem_of_getElem? (i := 26) rfl) rfl (fun _ _ _ _ _ _ us hl => match us, hl with | [_, _], _ => rfl)
theorem at_ulaw_word (X : K.In h) (G : h.Ns mainGlobals mg) (c : He.SaysD faL fnL K) : DefAt K mg "_law_word" s_ulaw_word ["call"] := defAt_of c X G (d := d_ulaw_word) (List.mem_of_getElem? (i := 27) rfl) (List.mem_of_getElem? (i := 27) rfl) rfl (fun _ _ _ _ _ _ us hl => match us, hl with | [_], _ => rfl)
theorem at_ulaw_is_right (X : K.In h) (G : h.Ns mainGlobals mg) (c : He.SaysD faL fnL K) : DefAt K mg "_law_is_right" s_ulaw_is_right ["tree"] := defAt_of c X G (d := d_ulaw_is_right) (List.mem_of_getElem? (i := 28) rfl) (List.mem_of_getElem? (i := 28) rfl) rfl (fun _ _ _ _ _ _ us hl => match us, hl with | [_], _ => rfl)
theorem at_ulaw_is_refused (X : K.In h) (G : h.Ns mainGlobals mg) (c : He.SaysD faL fnL K) : DefAt K mg "_law_is_refused" s_ulaw_is_refused ["thing"] := defAt_of c X G (d := d_ulaw_is_refused) (List.mem_of_getElem? (i := 29) rfl) (List.mem_of_getElem? (i := 29) rfl) rfl (fun _ _ _ _ _ _ us hl => match us, hl with | [_], _ => rfl)
theorem at_law (X : K.In h) (G : h.Ns mainGlobals mg) (c : He.SaysD faL fnL K) : DefAt K mg "law" s_law ["script"] := defAt_of c X G (d := d_law) (List.mem_of_getElem? (i := 30) rfl) (List.mem_of_getElem? (i := 30) rfl) rfl (fun _ _ _ _ _ _ us hl => match us, hl with | [_], _ => rfl)
theorem facts (X : K.In h) (G : h.Ns mainGlobals mg) (hfa : mg ("law" : Str) = some (.ref fa)) (c : He.SaysT faL fnL tsL w K) (m : moreB K = true) (ht : h.get? (He.cT K ("_law_is_refused", none)).2 = some { cls := .none, data := .fields #[] }) : LamX.LawAtS l w K CX0 42 63 "script" mg fa h := by
  have cd := c.d
  unfold moreB at m
  simp only [Bool.and_eq_true, decide_eq_true_eq] at m
  obtain ⟨m1, m2, m3, m4, m5, m6⟩ := m
  have B : Bi mg builtL := fun x hx => He.free_ok X G (cd.facts (List.mem_append_right _ (List.mem_map.mpr ⟨x, hx, rfl⟩)))
  have D_is_sign := at_is_sign X G cd
  have D_has_form := at_has_form X G cd
  have D_is_tree := at_is_tree X G cd
  have D_check_tree := at_check_tree X G cd
  have D_node_rows := at_node_rows X G cd
  have D_raw_nodes := at_raw_nodes X G cd
  have D_nodes_many := at_nodes_many X G cd
  have D_deep := at_deep X G cd
  have D_raw_signs := at_raw_signs X G cd
  have D_signs_in := at_signs_in X G cd
  have D_paths_of := at_paths_of X G cd
  have D_mirrored := at_mirrored X G cd
  have D_tree_text := at_tree_text X G cd
  have D_lines_of := at_lines_of X G cd
  have D_ulaw_hand := at_ulaw_hand X G cd
  have D_ulaw_draw := at_ulaw_draw X G cd
  have D_ulaw_some := at_ulaw_some X G cd
  have D_ulaw_ranks := at_ulaw_ranks X G cd
  have D_ulaw_tree := at_ulaw_tree X G cd
  have D_ulaw_wide := at_ulaw_wide X G cd
  have D_ulaw_chain := at_ulaw_chain X G cd
  have D_ulaw_nodes := at_ulaw_nodes X G cd
  have D_ulaw_deep := at_ulaw_deep X G cd
  have D_ulaw_signs := at_ulaw_signs X G cd
  have D_ulaw_paths := at_ulaw_paths X G cd
  have D_ulaw_put := at_ulaw_put X G cd
  have D_ulaw_no_tree := at_ulaw_no_tree X G cd
  have D_ulaw_word := at_ulaw_word X G cd
  have D_ulaw_is_right := at_ulaw_is_right X G cd
  have D_ulaw_is_refused := at_ulaw_is_refused X G cd
  have D_law := at_law X G cd
  have gN := He.glo_ok X G (cd.facts (f := .glo "NoTree") (List.mem_of_getElem? (i := 31) rfl))
  have gT := He.glo_ok X G (cd.facts (f := .glo "TellError") (List.mem_of_getElem? (i := 32) rfl))
  have gR := He.glo_ok X G (cd.facts (f := .glo "RANKS") (List.mem_of_getElem? (i := 33) rfl))
  have xN := He.exc_ok (cd.facts (f := .exc "NoTree") (List.mem_of_getElem? (i := 34) rfl))
  have xm := He.exm_ok (cd.facts (f := .exm "NoTree" "TellError" true) (List.mem_of_getElem? (i := 35) rfl))
  have I_MOST_NODES := He.int_ok X G (cd.facts (f := .int "MOST_NODES" 300) (List.mem_of_getElem? (i := 36) rfl))
  have I_MOST_DEEP := He.int_ok X G (cd.facts (f := .int "MOST_DEEP" 40) (List.mem_of_getElem? (i := 37) rfl))
  have X_NoTree : ExcOwn K mg "NoTree" (He.ga K "NoTree") := ⟨xN.1, gN, xN.2.1, xN.2.2.1, xN.2.2.2⟩
  have T_RANKS : ∃ a, mg "RANKS" = some (.ref a) ∧ KTab K w a tab_RANKS := by
    refine ⟨_, gR, tab_ok ?_ m1⟩
    have e : tsL.map (fun t => He.dicW K (t.1 K)) = tsL.map fun t => some (He.keysIn w.params t.2) := congrArg (fun z : He.AlT => z.2) c
    have e2 : He.dicW K (He.ga K "RANKS") = some (He.keysIn w.params ["a", "b", "c", "f", "g", "h", "s", "t"]) := by
      have := congrArg List.head? e
      exact Option.some.inj this
    exact dicW_get e2
  have hga : mg ("_law_is_refused" : Str) = some (.ref (He.ga K "_law_is_refused")) := He.glo_ok X G (cd.facts (f := .glo "_law_is_refused") (List.mem_of_getElem? (i := 29) rfl))
  have W := w_word D_ulaw_word B gN gT xm (excB_ok m2) m3 m4
  obtain ⟨f0, fd0, F0, hm0, hb0⟩ := D_law.ex
  have e0 : f0 = fa := by
    have e := hm0.symm.trans hfa
    cases e
    rfl
  subst e0
  have hb1 : ∀ (s : Shared) (u : Value), BindsTo s fd0 ⟨[u], []⟩ [("script", u)] := fun s u => by
    obtain ⟨oc, od, kV, doc, pm, an, cdv, ct, osl, rfl, lk, hcd⟩ := F0.ex
    exact .of_eq rfl
  refine ⟨fd0, [He.cT K ("_law_is_refused", none)], liftF K (tabA K) spLawF, ?_, ?_, ?_, hb1, ?_, ?_⟩
  · intro p hp
    cases List.mem_singleton.mp hp
    exact ht
  · intro p hp
    cases List.mem_singleton.mp hp
    exact Option.isNone_iff_eq_none.mp m6
  · intro p hp
    cases List.mem_singleton.mp hp
    exact PySem.W.codeHd_of_K X m5
  · intro H a ns hl _ hT hS
    exact liftF_start (fun p hp => by cases List.mem_singleton.mp hp; exact hT _ List.mem_cons_self) hS ⟨hl, rfl⟩
  intro base _ _ hTB
  have TB : LamX.TabB base mg (He.codeOf K ("_law_is_refused", none)) (He.cT K ("_law_is_refused", none)).2 := hTB _ List.mem_cons_self
  have hmT : ((He.cT K ("_law_is_refused", none)).2, (envOfC "_law_is_refused" (defScope s_ulaw_is_refused) 0 0 .none).qual ++ ("<lambda>" : Str)) ∈ tabA K := List.mem_cons_self
  have hu : ∀ p ∈ tabA K, p.1 = (He.cT K ("_law_is_refused", none)).2 → p.2 = (envOfC "_law_is_refused" (defScope s_ulaw_is_refused) 0 0 .none).qual ++ ("<lambda>" : Str) := fun p hp _ => by cases List.mem_singleton.mp hp; rfl
  have F_is_sign : Cal l.prog w K mg base CX0 (0 + 1) "is_sign" (liftP K (tabA K) spIsSign) := c_is_sign (k := 0) D_is_sign B T_RANKS (fun as Q R h => by obtain ⟨_, rfl, _⟩ := h; rfl) l_is_sign
  have F_has_form : Cal l.prog w K mg base CX0 (1 + 1) "has_form" (liftP K (tabA K) spHasForm) := c_has_form (k := 1) D_has_form B (F_is_sign).mono T_RANKS (fun as Q R h => by obtain ⟨_, rfl, _⟩ := h; rfl) l_has_form
  have F_is_tree : Cal l.prog w K mg base CX0 (2 + 1) "is_tree" (liftP K (tabA K) spIsTree) := c_is_tree (k := 2) D_is_tree B (F_has_form).mono I_MOST_NODES I_MOST_DEEP (fun as Q R h => by obtain ⟨_, rfl, _⟩ := h; rfl) l_is_tree
  have F_check0 : Cal l.prog w K mg base CX0 (3 + 1) "check_tree" (liftP K (tabA K) spCheck0) := c_check_tree0 (k := 3) D_check_tree B (F_is_tree).mono (fun as Q R h => by obtain ⟨_, rfl, _⟩ := h; rfl) l_check_tree0
  have F_checkX : Cal l.prog w K mg base (L2.CX l.prog w) (3 + 1) "check_tree" (liftP K (tabA K) (spBad (He.ga K "NoTree"))) := c_check_treeX (k := 3) D_check_tree B (F_is_tree).mono X_NoTree (fun as Q R h => by obtain ⟨_, rfl, _⟩ := h; rfl) l_check_treeX
  have F_node_rows : Cal l.prog w K mg base CX0 (0 + 1) "node_rows" (liftP K (tabA K) spRows) := c_node_rows (k := 0) D_node_rows B (fun as Q R h => by obtain ⟨_, rfl, _⟩ := h; rfl) l_node_rows
  have F_raw_nodes : Cal l.prog w K mg base CX0 (1 + 1) "raw_nodes" (liftP K (tabA K) spRaw) := c_raw_nodes (k := 1) D_raw_nodes B (F_node_rows).mono (fun as Q R h => by obtain ⟨_, rfl, _⟩ := h; rfl) l_raw_nodes
  have F_raw_signs : Cal l.prog w K mg base CX0 (1 + 1) "raw_signs" (liftP K (tabA K) spRawSg) := c_raw_signs (k := 1) D_raw_signs B (F_node_rows).mono (fun as Q R h => by obtain ⟨_, rfl, _⟩ := h; rfl) l_raw_signs
  have F_nodes_many0 : Cal l.prog w K mg base CX0 (4 + 1) "nodes_many" (liftP K (tabA K) spMany) := c_nodes_many0 (k := 4) D_nodes_many B (F_check0).mono (F_raw_nodes).mono (fun as Q R h => by obtain ⟨_, rfl, _⟩ := h; rfl) l_nodes_many0
  have F_deep0 : Cal l.prog w K mg base CX0 (4 + 1) "deep" (liftP K (tabA K) spDeep) := c_deep0 (k := 4) D_deep B (F_check0).mono (F_node_rows).mono (fun as Q R h => by obtain ⟨_, rfl, _⟩ := h; rfl) l_deep0
  have F_signs_in0 : Cal l.prog w K mg base CX0 (4 + 1) "signs_in" (liftP K (tabA K) spSigns) := c_signs_in0 (k := 4) D_signs_in B (F_check0).mono (F_raw_signs).mono (fun as Q R h => by obtain ⟨_, rfl, _⟩ := h; rfl) l_signs_in0
  have F_nodes_manyX : Cal l.prog w K mg base (L2.CX l.prog w) (4 + 1) "nodes_many" (liftP K (tabA K) (spBad (He.ga K "NoTree"))) := c_nodes_manyX (k := 4) D_nodes_many B (F_checkX).mono (fun as Q R h => by obtain ⟨_, rfl, _⟩ := h; rfl) l_nodes_manyX
  have F_deepX : Cal l.prog w K mg base (L2.CX l.prog w) (4 + 1) "deep" (liftP K (tabA K) (spBad (He.ga K "NoTree"))) := c_deepX (k := 4) D_deep B (F_checkX).mono (fun as Q R h => by obtain ⟨_, rfl, _⟩ := h; rfl) l_deepX
  have F_signs_inX : Cal l.prog w K mg base (L2.CX l.prog w) (4 + 1) "signs_in" (liftP K (tabA K) (spBad (He.ga K "NoTree"))) := c_signs_inX (k := 4) D_signs_in B (F_checkX).mono (fun as Q R h => by obtain ⟨_, rfl, _⟩ := h; rfl) l_signs_inX
  have F_paths_ofX : Cal l.prog w K mg base (L2.CX l.prog w) (4 + 1) "paths_of" (liftP K (tabA K) (spBad (He.ga K "NoTree"))) := c_paths_ofX (k := 4) D_paths_of B (F_checkX).mono (fun as Q R h => by obtain ⟨_, rfl, _⟩ := h; rfl) l_paths_ofX
  have F_mirroredX : Cal l.prog w K mg base (L2.CX l.prog w) (4 + 1) "mirrored" (liftP K (tabA K) (spBad (He.ga K "NoTree"))) := c_mirroredX (k := 4) D_mirrored B (F_checkX).mono (fun as Q R h => by obtain ⟨_, rfl, _⟩ := h; rfl) l_mirroredX
  have F_tree_textX : Cal l.prog w K mg base (L2.CX l.prog w) (4 + 1) "tree_text" (liftP K (tabA K) (spBad (He.ga K "NoTree"))) := c_tree_textX (k := 4) D_tree_text B (F_checkX).mono (fun as Q R h => by obtain ⟨_, rfl, _⟩ := h; rfl) l_tree_textX
  have F_lines_ofX : Cal l.prog w K mg base (L2.CX l.prog w) (4 + 1) "lines_of" (liftP K (tabA K) (spBad (He.ga K "NoTree"))) := c_lines_ofX (k := 4) D_lines_of B (F_checkX).mono (fun as Q R h => by obtain ⟨_, rfl, _⟩ := h; rfl) l_lines_ofX
  have F_draw : Cal l.prog w K mg base CX0 (0 + 1) "_law_draw" (liftH K (tabA K) spDraw) := c_ulaw_draw (k := 0) D_ulaw_draw B (fun hd as Q R h => by obtain ⟨_, rfl, _⟩ := h; rfl) l_ulaw_draw
  have F_some : Cal l.prog w K mg base CX0 (1 + 1) "_law_some" (liftH K (tabA K) spSome) := c_ulaw_some (k := 1) D_ulaw_some B (F_draw).mono (fun hd as Q R h => by obtain ⟨_, rfl, _⟩ := h; rfl) l_ulaw_some
  have F_ranks : Cal l.prog w K mg base CX0 (0 + 1) "_law_ranks" (liftP K (tabA K) spRanks) := c_ulaw_ranks (k := 0) D_ulaw_ranks B (fun as Q R h => by obtain ⟨rfl, _⟩ := h; rfl) l_ulaw_ranks
  have F_chain : Cal l.prog w K mg base CX0 (2 + 1) "_law_chain" (liftH K (tabA K) spChain) := c_ulaw_chain (k := 2) D_ulaw_chain B (F_some).mono (fun hd as Q R h => by obtain ⟨_, rfl, _⟩ := h; rfl) l_ulaw_chain
  have F_tree : ∀ n : Nat, Cal l.prog w K mg base CX0 (2 + n) "_law_tree" (liftH K (tabA K) (spTree n)) := by
    intro n
    induction n with
    | zero => exact noneH D_ulaw_tree (fun _ _ _ _ z => z)
    | succ n ih => exact c_ulaw_tree (k := 2 + n) D_ulaw_tree B (F_some).mono (F_draw).mono (F_ranks).mono (ih).mono (fun hd as Q R h => by obtain ⟨_, rfl, _⟩ := h; rfl) (l_ulaw_tree n)
  have F_wide : ∀ n : Nat, Cal l.prog w K mg base CX0 (2 + n) "_law_wide" (liftH K (tabA K) (spWide n)) := by
    intro n
    induction n with
    | zero => exact noneH D_ulaw_wide (fun _ _ _ _ z => z)
    | succ n ih => exact c_ulaw_wide (k := 2 + n) D_ulaw_wide B (F_some).mono (ih).mono (fun hd as Q R h => by obtain ⟨_, rfl, _⟩ := h; rfl) (l_ulaw_wide n)
  have F_nodes : ∀ n : Nat, Cal l.prog w K mg base CX0 (0 + n) "_law_nodes" (liftP K (tabA K) (spNodes n)) := by
    intro n
    induction n with
    | zero => exact noneP D_ulaw_nodes (fun _ _ _ z => z)
    | succ n ih => exact c_ulaw_nodes (k := 0 + n) D_ulaw_nodes B (ih).mono (fun as Q R h => by obtain ⟨_, rfl, _⟩ := h; rfl) (l_ulaw_nodes n)
  have F_dp : ∀ n : Nat, Cal l.prog w K mg base CX0 (0 + n) "_law_deep" (liftP K (tabA K) (spDp n)) := by
    intro n
    induction n with
    | zero => exact noneP D_ulaw_deep (fun _ _ _ z => z)
    | succ n ih => exact c_ulaw_deep (k := 0 + n) D_ulaw_deep B (ih).mono (fun as Q R h => by obtain ⟨_, rfl, _⟩ := h; rfl) (l_ulaw_deep n)
  have F_sg : ∀ n : Nat, Cal l.prog w K mg base CX0 (0 + n) "_law_signs" (liftP K (tabA K) (spSg n)) := by
    intro n
    induction n with
    | zero => exact noneP D_ulaw_signs (fun _ _ _ z => z)
    | succ n ih => exact c_ulaw_signs (k := 0 + n) D_ulaw_signs B (ih).mono (fun as Q R h => by obtain ⟨_, rfl, _⟩ := h; rfl) (l_ulaw_signs n)
  have F_paths : ∀ n : Nat, Cal l.prog w K mg base CX0 (0 + n) "_law_paths" (liftP K (tabA K) (spPaths n)) := by
    intro n
    induction n with
    | zero => exact noneP D_ulaw_paths (fun _ _ _ z => z)
    | succ n ih => exact c_ulaw_paths (k := 0 + n) D_ulaw_paths B (ih).mono (fun as Q R h => by obtain ⟨_, rfl, _⟩ := h; rfl) (l_ulaw_paths n)
  have F_put : ∀ n : Nat, Cal l.prog w K mg base CX0 (0 + n) "_law_put" (liftP K (tabA K) (spPut n)) := by
    intro n
    induction n with
    | zero => exact noneP D_ulaw_put (fun _ _ _ z => z)
    | succ n ih => exact c_ulaw_put (k := 0 + n) D_ulaw_put B (ih).mono (fun as Q R h => by obtain ⟨_, _, _, rfl, _⟩ := h; rfl) (l_ulaw_put n)
  have F_no_tree : Cal l.prog w K mg base CX0 (20 + 1) "_law_no_tree" (liftH K (tabA K) spNo) := c_ulaw_no_tree (k := 20) D_ulaw_no_tree B (F_put 6).mono (F_some).mono (F_paths 5).mono (F_chain).mono (F_wide 18).mono (fun hd as Q R h => by obtain ⟨_, rfl, _⟩ := h; rfl) l_ulaw_no_tree
  have F_right : Cal l.prog w K mg base CX0 (40 + 1) "_law_is_right" (liftP K (tabA K) spRight) := c_ulaw_is_right (k := 40) D_ulaw_is_right B (F_is_tree).mono (F_nodes_many0).mono (F_nodes 40).mono (F_deep0).mono (F_dp 40).mono (F_signs_in0).mono (F_sg 40).mono (fun as Q R h => by obtain ⟨_, rfl, _⟩ := h; rfl) l_ulaw_is_right
  have F_refused : Cal l.prog w K mg base CX0 (5 + 3) "_law_is_refused" (liftP K (tabA K) spRefused) := c_ulaw_is_refused (k := 5) D_ulaw_is_refused B (F_nodes_manyX).mono (F_deepX).mono (F_signs_inX).mono (F_paths_ofX).mono (F_mirroredX).mono (F_tree_textX).mono (F_lines_ofX).mono (F_is_tree).mono W hga TB hmT hu (fun as Q R h => by obtain ⟨_, rfl, _⟩ := h; rfl) l_ulaw_is_refused
  have F_hand : Cal l.prog w K mg base CX0 (0 + 1) "_law_hand" (liftF K (tabA K) spHand) := c_ulaw_hand (k := 0) D_ulaw_hand B l_ulaw_hand
  exact c_law (k := 41) F0 B (F_hand).mono (F_tree 5).mono (F_draw).mono (F_chain).mono (F_wide 18).mono (F_right).mono (F_refused).mono (F_no_tree).mono (F_is_tree).mono l_law
end
end K00

open PySem PySem.W PyProof.Rows
set_option maxRecDepth 100000 in
set_option maxHeartbeats 0 in
theorem PySem.Challenge.cw_firstgap_k00_whole_trees_judged_holds : PySem.Challenge.rw_firstgap_k00_whole_trees_judged.Holds := by
  w_on; o_law; k_head; (case hw => w_witness2)
  refine LamX.walk_ofTs (l := PySem.Challenge.rw_firstgap_k00_whole_trees_judged) (n := 63) (k := 42) (x := "script") (CX := fun _ => L2.CX0) rfl (by decide) rfl ⟨rfl, by decide, by decide⟩ (fun w h Y => PySem.W.km_in_of Y) ?F (fun _ _ _ _ _ z => z)
  case F =>
    intro w mg fa h Y KX G hmg
    refine K00.facts KX G hmg ?c ?m (PySem.W.km_tabs_of Y _ (List.mem_of_elem_eq_true ?e))
    case c => unfold He.SaysT; kernel_rfl
    case m => kernel_rfl
    case e => kernel_rfl

