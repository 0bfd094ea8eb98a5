import PyProof.Rows.All
import Wide.All
import OpenK.AllK
import Wide.FinOn
import HandS.ForMost
import HandS.ForExc
import HandS.CallSlots
import HandS.TryMany
import HandS.Wide
import HandS.FStr
import HandS.Property
import HandS.RaiseFrom
import HandS.SuiteRaise
import HandS.EndBits
import HandS.IsInst
import HandS.Flow
import HandS.TupAny
import HandS.RevRange
import HandS.Style
import PyProof.ListNew
import PyProof.ZipIter
import HandS.Zip
import HandS.WideBits
import PySem.Challenge.RW_bothcome_k71_texts_are_read
set_option Elab.async false
set_option linter.all false
set_option maxRecDepth 100000
set_option maxHeartbeats 4000000
namespace DL
open PySem PySem.Spec PyProof.Rows L2

/-! ### data by value -/
inductive D where
  | non | bl (b : Bool) | int (i : Int) | str (x : Str) | ty (n : String)
  | tup (ds : List D) | lst (ds : List D) | lsk (ds : List D)
  | obj (C : Addr) (fs : List (Str × D))
  | ptr (a : Addr)
instance : Inhabited D := ⟨.non⟩

mutual
inductive Rep (K : PySem.W.Frag) (I : Hp) : D → V → Prop
  | non : Rep K I .non .non
  | bl {b} : Rep K I (.bl b) (.bl b)
  | int {i} : Rep K I (.int i) (.int i)
  | str {x} : Rep K I (.str x) (.str x)
  | ty {n} : Rep K I (.ty n) (.ty n)
  | tup {ds vs a} : SqT K I a vs → Reps K I ds vs → Rep K I (.tup ds) (.ref a)
  | lst {ds vs a} : I a = some (.lst vs) → Reps K I ds vs → Rep K I (.lst ds) (.ref a)
  | lsk {ds vs a} : SqL K I a vs → Reps K I ds vs → Rep K I (.lsk ds) (.ref a)
  | obj {C fs dx fv a} : I a = some (.ins C dx fv) → RepF K I fs fv → Rep K I (.obj C fs) (.ref a)
  | ptr {a} : Rep K I (.ptr a) (.ref a)
inductive Reps (K : PySem.W.Frag) (I : Hp) : List D → List V → Prop
  | nil : Reps K I [] []
  | cons {d v ds vs} : Rep K I d v → Reps K I ds vs → Reps K I (d :: ds) (v :: vs)
inductive RepF (K : PySem.W.Frag) (I : Hp) : List (Str × D) → List (Str × V) → Prop
  | nil : RepF K I [] []
  | cons {f d v fs fv} : Rep K I d v → RepF K I fs fv → RepF K I ((f, d) :: fs) ((f, v) :: fv)
end
theorem sameT {K : PySem.W.Frag} {H J : Hp} {a : Addr} {xs : List V} (e : Same H J) (h : SqT K H a xs) : SqT K J a xs := by
  rcases h with (h | ⟨o, h⟩) | h
  · exact .inl (.inl (e _ _ h))
  · exact .inl (.inr ⟨o, e _ _ h⟩)
  · exact .inr h
mutual
theorem Rep.mono {K : PySem.W.Frag} {I J : Hp} (e : Same I J) : ∀ {d v}, Rep K I d v → Rep K J d v
  | _, _, .non => .non
  | _, _, .bl => .bl
  | _, _, .int => .int
  | _, _, .str => .str
  | _, _, .ty => .ty
  | _, _, .tup h r => .tup (sameT e h) (Reps.mono e r)
  | _, _, .lst h r => .lst (e _ _ h) (Reps.mono e r)
  | _, _, .lsk h r => .lsk (e.seq h) (Reps.mono e r)
  | _, _, .obj h r => .obj (e _ _ h) (RepF.mono e r)
  | _, _, .ptr => .ptr
theorem Reps.mono {K : PySem.W.Frag} {I J : Hp} (e : Same I J) : ∀ {ds vs}, Reps K I ds vs → Reps K J ds vs
  | _, _, .nil => .nil
  | _, _, .cons h r => .cons (Rep.mono e h) (Reps.mono e r)
theorem RepF.mono {K : PySem.W.Frag} {I J : Hp} (e : Same I J) : ∀ {fs fv}, RepF K I fs fv → RepF K J fs fv
  | _, _, .nil => .nil
  | _, _, .cons h r => .cons (Rep.mono e h) (RepF.mono e r)
end
section
variable {K : PySem.W.Frag} {I J : Hp} {ds es : List D} {vs us : List V} {d : D} {v : V}
theorem Reps.len (r : Reps K I ds vs) : ds.length = vs.length := by
  induction ds generalizing vs with
  | nil => cases r; rfl
  | cons d ds ih => cases r with | cons _ r => simp [ih r]
theorem Reps.get {i : Nat} (r : Reps K I ds vs) (h : ds[i]? = some d) : ∃ v, vs[i]? = some v ∧ Rep K I d v := by
  induction ds generalizing vs i with
  | nil => simp at h
  | cons e ds ih =>
    cases r with
    | cons r1 r2 =>
      cases i with
      | zero => simp at h; subst h; exact ⟨_, rfl, r1⟩
      | succ i =>
        have q := ih (i := i) r2 (by simpa using h)
        simpa using q
theorem Reps.getV {i : Nat} (r : Reps K I ds vs) (h : vs[i]? = some v) : ∃ d, ds[i]? = some d ∧ Rep K I d v := by
  have hl : i < vs.length := (List.getElem?_eq_some_iff.mp h).1
  have hd : i < ds.length := by rw [r.len]; exact hl
  obtain ⟨w, hw, q⟩ := r.get (List.getElem?_eq_getElem hd)
  rw [h] at hw
  cases hw
  exact ⟨_, List.getElem?_eq_getElem hd, q⟩
theorem Reps.append (r : Reps K I ds vs) (q : Reps K I es us) : Reps K I (ds ++ es) (vs ++ us) := by
  induction ds generalizing vs with
  | nil => cases r; exact q
  | cons d ds ih => cases r with | cons r1 r2 => exact .cons r1 (ih r2)
theorem Reps.set (r : Reps K I ds vs) (q : Rep K I d v) (i : Nat) : Reps K I (ds.set i d) (vs.set i v) := by
  induction ds generalizing vs i with
  | nil => cases r; exact .nil
  | cons e ds ih =>
    cases r with
    | cons r1 r2 =>
      cases i with
      | zero => exact .cons q r2
      | succ i => exact .cons r1 (ih r2 i)
theorem Reps.take (r : Reps K I ds vs) (n : Nat) : Reps K I (ds.take n) (vs.take n) := by
  induction ds generalizing vs n with
  | nil => cases r; simp; exact .nil
  | cons e ds ih =>
    cases r with
    | cons r1 r2 =>
      cases n with
      | zero => exact .nil
      | succ i => exact .cons r1 (ih r2 i)
theorem Reps.drop (r : Reps K I ds vs) (n : Nat) : Reps K I (ds.drop n) (vs.drop n) := by
  induction ds generalizing vs n with
  | nil => cases r; simp; exact .nil
  | cons e ds ih =>
    cases r with
    | cons r1 r2 =>
      cases n with
      | zero => exact .cons r1 r2
      | succ i => exact ih r2 i
theorem Reps.reverse (r : Reps K I ds vs) : Reps K I ds.reverse vs.reverse := by
  induction ds generalizing vs with
  | nil => cases r; exact .nil
  | cons e ds ih =>
    cases r with
    | cons r1 r2 =>
      rw [List.reverse_cons, List.reverse_cons]
      exact (ih r2).append (.cons r1 .nil)
theorem reps_map {α : Type} {f : α → D} {g : α → V} (h : ∀ x, Rep K I (f x) (g x)) : ∀ xs : List α, Reps K I (xs.map f) (xs.map g)
  | [] => .nil
  | x :: xs => .cons (h x) (reps_map h xs)
theorem reps_ints (ns : List Int) : Reps K I (ns.map D.int) (ns.map V.int) := reps_map (fun _ => .int) ns
theorem reps_strs (ns : List Str) : Reps K I (ns.map D.str) (ns.map V.str) := reps_map (fun _ => .str) ns
/-- a field's place by its name -/
inductive Fld : List (Str × D) → Str → D → Prop
  | here {f d fs} : Fld ((f, d) :: fs) f d
  | there {k e fs f d} : k ≠ f → Fld fs f d → Fld ((k, e) :: fs) f d
theorem Fld.look {fs : List (Str × D)} {fv : List (Str × V)} {f : Str} (h : Fld fs f d) (r : RepF K I fs fv) : ∃ v, fv.lookup f = some v ∧ Rep K I d v := by
  induction h generalizing fv with
  | here =>
    cases r with
    | cons r1 r2 => exact ⟨_, by simp [List.lookup], r1⟩
  | there hne _ ih =>
    cases r with
    | cons r1 r2 =>
      obtain ⟨v, h1, h2⟩ := ih r2
      refine ⟨v, ?_, h2⟩
      rw [List.lookup_cons]
      have : ∀ k f : Str, k ≠ f → (f == k) = false := fun k f h => by simpa using fun e => h e.symm
      rw [this _ _ hne]
      exact h1
/-- no such field -/
inductive NoFld : List (Str × D) → Str → Prop
  | nil {f} : NoFld [] f
  | cons {k e fs f} : k ≠ f → NoFld fs f → NoFld ((k, e) :: fs) f
theorem NoFld.look {fs : List (Str × D)} {fv : List (Str × V)} {f : Str} (h : NoFld fs f) (r : RepF K I fs fv) : fv.lookup f = none := by
  induction h generalizing fv with
  | nil => cases r; rfl
  | cons hne _ ih =>
    cases r with
    | cons r1 r2 =>
      rw [List.lookup_cons]
      have : ∀ k f : Str, k ≠ f → (f == k) = false := fun k f h => by simpa using fun e => h e.symm
      rw [this _ _ hne]
      exact ih r2
/-- a field stored -/
inductive Put : List (Str × D) → Str → D → List (Str × D) → Prop
  | new {f d} : Put [] f d [(f, d)]
  | here {f d e fs} : Put ((f, e) :: fs) f d ((f, d) :: fs)
  | there {k e fs f d fs'} : k ≠ f → Put fs f d fs' → Put ((k, e) :: fs) f d ((k, e) :: fs')
theorem Put.rep {fs fs' : List (Str × D)} {fv : List (Str × V)} {f : Str} (h : Put fs f d fs') (r : RepF K I fs fv) (q : Rep K I d v) : RepF K I fs' (putF f v fv) := by
  induction h generalizing fv with
  | new => cases r; exact .cons q .nil
  | here =>
    cases r with
    | cons r1 r2 =>
      unfold putF
      rw [if_pos rfl]
      exact .cons q r2
  | there hne _ ih =>
    cases r with
    | cons r1 r2 =>
      unfold putF
      rw [if_neg hne]
      exact .cons r1 (ih r2 q)
theorem RepF.len {fs : List (Str × D)} {fv : List (Str × V)} (r : RepF K I fs fv) : fs.length = fv.length := by
  induction fs generalizing fv with
  | nil => cases r; rfl
  | cons d ds ih => cases r with | cons _ r => simp [ih r]
end

/-! ### cells: what is known of the objects that may change -/
inductive Cell where
  | lst (ds : List D)
  | ins (C : Addr) (fs : List (Str × D))
  | raw (o : HO)
abbrev OH := Addr → Option Cell
def updO (O : OH) (a : Addr) (c : Cell) : OH := fun b => if b = a then some c else O b
def delO (O : OH) (a : Addr) : OH := fun b => if b = a then none else O b
@[simp] theorem updO_same {O : OH} {a : Addr} {c : Cell} : updO O a c a = some c := by unfold updO; rw [if_pos rfl]
theorem updO_ne {O : OH} {a b : Addr} {c : Cell} (h : b ≠ a) : updO O a c b = O b := by unfold updO; rw [if_neg h]
@[simp] theorem updO_updO {O : OH} {a : Addr} {c c' : Cell} : updO (updO O a c) a c' = updO O a c' := by
  funext b; unfold updO; split <;> rfl
theorem updO_comm {O : OH} {a b : Addr} {c c' : Cell} (h : a ≠ b) : updO (updO O a c) b c' = updO (updO O b c') a c := by
  funext x; unfold updO
  by_cases h1 : x = b
  · subst h1; rw [if_pos rfl, if_neg (Ne.symm h), if_pos rfl]
  · rw [if_neg h1]
    by_cases h2 : x = a
    · rw [if_pos h2]; rw [if_pos h2]
    · rw [if_neg h2]; rw [if_neg h2]; rw [if_neg h1]
theorem updO_self {O : OH} {a : Addr} {c : Cell} (h : O a = some c) : updO O a c = O := by
  funext b; unfold updO
  by_cases e : b = a
  · rw [if_pos e, e, h]
  · rw [if_neg e]
theorem ne_ofO {O : OH} {a b : Addr} {c : Cell} (h : O a = some c) (h' : O b = none) : a ≠ b := by
  intro e; subst e; rw [h] at h'; cases h'
def SubO (O O' : OH) : Prop := ∀ a c, O a = some c → O' a = some c
theorem SubO.refl {O : OH} : SubO O O := fun _ _ h => h
theorem SubO.upd {O O' : OH} {a : Addr} {c : Cell} (h : SubO O O') : SubO (updO O a c) (updO O' a c) := fun b d e => by
  unfold updO at e ⊢
  split
  · rename_i q; rw [if_pos q] at e; exact e
  · rename_i q; rw [if_neg q] at e; exact h _ _ e
theorem SubO.new {O O' : OH} {a : Addr} {c : Cell} (h : SubO O O') (hn : O a = none) : SubO O (updO O' a c) := fun b d e => by
  rw [updO_ne (ne_ofO e hn)]; exact h _ _ e
theorem SubO.trans {O O' O2 : OH} (h : SubO O O') (h2 : SubO O' O2) : SubO O O2 := fun b d e => h2 _ _ (h _ _ e)

section
variable (K : PySem.W.Frag)
def CellOk (I : Hp) (o : Option HO) : Cell → Prop
  | .lst ds => ∃ vs, o = some (.lst vs) ∧ Reps K I ds vs
  | .ins C fs => ∃ dx fv, o = some (.ins C dx fv) ∧ RepF K I fs fv
  | .raw u => o = some u
/-- I: what never changes again; O: the cells; H: the heap that bears both -/
structure Hd (I : Hp) (O : OH) (H : Hp) : Prop where
  sub : Same I H
  cel : ∀ a c, O a = some c → I a = none ∧ CellOk K I (H a) c
def EOk (I : Hp) (σ : L2.St) (δ : List (Option D)) : Prop :=
  σ.length = δ.length ∧ ∀ (i : Nat) d, δ[i]? = some (some d) → ∃ v, σ[i]? = some (some v) ∧ Rep K I d v
/-- behind an expression -/
def Post (I : Hp) (Q : D → OH → Prop) : VK := fun v H => ∃ J O d, Same I J ∧ Hd K J O H ∧ Rep K J d v ∧ Q d O
end
abbrev EN := List (Option D)
section
variable {K : PySem.W.Frag} {I J H H' : Hp} {O O' : OH} {a : Addr} {c : Cell} {σ : L2.St} {δ : EN}
theorem CellOk.mono {o : Option HO} (e : Same I J) (h : CellOk K I o c) : CellOk K J o c := by
  cases c with
  | lst ds => obtain ⟨vs, h1, h2⟩ := h; exact ⟨vs, h1, h2.mono e⟩
  | ins C fs => obtain ⟨dx, fv, h1, h2⟩ := h; exact ⟨dx, fv, h1, h2.mono e⟩
  | raw u => exact h
theorem EOk.mono (e : Same I J) (h : EOk K I σ δ) : EOk K J σ δ := ⟨h.1, fun i d q => let ⟨v, h1, h2⟩ := h.2 i d q; ⟨v, h1, h2.mono e⟩⟩
theorem Hd.weak (h : Hd K I O H) (s : SubO O' O) : Hd K I O' H := ⟨h.sub, fun a c e => h.cel a c (s a c e)⟩
theorem Hd.none_of (h : Hd K I O H) (hn : H a = none) : I a = none ∧ O a = none := by
  constructor
  · cases e : I a with
    | none => rfl
    | some o => rw [h.sub _ _ e] at hn; cases hn
  · cases e : O a with
    | none => rfl
    | some c =>
      obtain ⟨_, q⟩ := h.cel _ _ e
      rw [hn] at q
      cases c with
      | lst ds => obtain ⟨_, q, _⟩ := q; cases q
      | ins C fs => obtain ⟨_, _, q, _⟩ := q; cases q
      | raw u => cases q
/-- a new tuple, list: for ever -/
theorem Hd.newI {o : HO} (h : Hd K I O H) (hn : H a = none) : Same I (upd I a o) ∧ Hd K (upd I a o) O (upd H a o) := by
  obtain ⟨n1, n2⟩ := h.none_of hn
  have s : Same I (upd I a o) := fun b u e => by rw [upd_ne (ne_of_none e n1)]; exact e
  refine ⟨s, fun b u e => ?_, fun b c e => ?_⟩
  · by_cases q : b = a
    · subst q; rw [upd_same] at e ⊢; exact e
    · rw [upd_ne q] at e ⊢; exact h.sub _ _ e
  · have q : b ≠ a := ne_ofO e n2
    obtain ⟨h1, h2⟩ := h.cel _ _ e
    rw [upd_ne q, upd_ne q]
    exact ⟨h1, h2.mono s⟩
/-- a new cell -/
theorem Hd.newO {o : HO} (h : Hd K I O H) (hn : H a = none) (hc : CellOk K I (some o) c) : O a = none ∧ Hd K I (updO O a c) (upd H a o) := by
  obtain ⟨n1, n2⟩ := h.none_of hn
  refine ⟨n2, fun b u e => ?_, fun b c' e => ?_⟩
  · have q : b ≠ a := fun z => by rw [z, n1] at e; cases e
    rw [upd_ne q]; exact h.sub _ _ e
  · by_cases q : b = a
    · subst q
      rw [updO_same] at e; cases e
      rw [upd_same]; exact ⟨n1, hc⟩
    · rw [updO_ne q] at e
      rw [upd_ne q]
      exact h.cel _ _ e
/-- a cell written -/
theorem Hd.write {o : HO} {c' : Cell} (h : Hd K I O H) (ha : O a = some c') (hc : CellOk K I (some o) c) : Hd K I (updO O a c) (upd H a o) := by
  obtain ⟨n1, _⟩ := h.cel _ _ ha
  refine ⟨fun b u e => ?_, fun b c' e => ?_⟩
  · have q : b ≠ a := fun z => by rw [z, n1] at e; cases e
    rw [upd_ne q]; exact h.sub _ _ e
  · by_cases q : b = a
    · subst q
      rw [updO_same] at e; cases e
      rw [upd_same]; exact ⟨n1, hc⟩
    · rw [updO_ne q] at e
      rw [upd_ne q]
      exact h.cel _ _ e
/-- a cell is let stand for ever -/
theorem Hd.freeze {o : HO} (h : Hd K I O H) (ha : O a = some c) (ho : H a = some o) : Same I (upd I a o) ∧ Hd K (upd I a o) (delO O a) H := by
  obtain ⟨n1, n2⟩ := h.cel _ _ ha
  have s : Same I (upd I a o) := fun b u e => by rw [upd_ne (ne_of_none e n1)]; exact e
  refine ⟨s, fun b u e => ?_, fun b c e => ?_⟩
  · by_cases q : b = a
    · subst q; rw [upd_same] at e; cases e; exact ho
    · rw [upd_ne q] at e; exact h.sub _ _ e
  · unfold delO at e
    by_cases q : b = a
    · rw [if_pos q] at e; cases e
    · rw [if_neg q] at e
      obtain ⟨h1, h2⟩ := h.cel _ _ e
      rw [upd_ne q]
      exact ⟨h1, h2.mono s⟩
theorem EOk.set {i : Nat} {d : D} {v : V} (h : EOk K I σ δ) (r : Rep K I d v) : EOk K I (σ.set i (some v)) (δ.set i (some d)) := by
  refine ⟨by simp [h.1], fun j e q => ?_⟩
  by_cases z : i = j
  · subst z
    by_cases hl : i < δ.length
    · rw [List.getElem?_set_self hl] at q
      cases q
      exact ⟨v, List.getElem?_set_self (by rw [h.1]; exact hl), r⟩
    · rw [List.getElem?_eq_none (by simpa using hl)] at q; cases q
  · rw [List.getElem?_set_ne z] at q
    obtain ⟨u, h1, h2⟩ := h.2 j e q
    exact ⟨u, by rw [List.getElem?_set_ne z]; exact h1, h2⟩
theorem EOk.clr {i : Nat} (h : EOk K I σ δ) : EOk K I (σ.set i none) (δ.set i none) := by
  refine ⟨by simp [h.1], fun j e q => ?_⟩
  by_cases z : i = j
  · subst z
    by_cases hl : i < δ.length
    · rw [List.getElem?_set_self hl] at q; cases q
    · rw [List.getElem?_eq_none (by simpa using hl)] at q; cases q
  · rw [List.getElem?_set_ne z] at q
    obtain ⟨u, h1, h2⟩ := h.2 j e q
    exact ⟨u, by rw [List.getElem?_set_ne z]; exact h1, h2⟩
theorem Post.mono {Q R : D → OH → Prop} {v : V} (e : Same I J) (h : Post K J Q v H) (k : ∀ d O, Q d O → R d O) : Post K I R v H := by
  obtain ⟨J', O, d, s, hh, r, q⟩ := h
  exact ⟨J', O, d, e.trans s, hh, r, k _ _ q⟩
theorem Post.of {Q : D → OH → Prop} {v : V} {d : D} (h : Hd K J O H) (e : Same I J) (r : Rep K J d v) (q : Q d O) : Post K I Q v H := ⟨J, O, d, e, h, r, q⟩
end
end DL

namespace DL
open PySem PySem.Spec PyProof.Rows L2

section
variable {X : Cx}
/-- the weakest readings -/
def tE (X : Cx) (e : Expr) : TE := fun σ H Q => ∀ pins s, Inv X pins σ H s → wpAny (model X.prog X.w) X.A (eval e X.env) (EP X pins σ Q) X.xe s
def tT (X : Cx) (e : Expr) : TT := fun σ H Q => ∀ pins s, Inv X pins σ H s → wpAny (model X.prog X.w) X.A (isTrue e X.env (eval e X.env)) (TP X pins σ Q) X.xe s
def tW (X : Cx) (e : Expr) : TT := fun σ H Q => ∀ whole pins s, Inv X pins σ H s → wpAny (model X.prog X.w) X.A (isTrue e X.env whole) (TP X pins σ Q) X.xe s
def tA (X : Cx) (es : List Expr) : TA := fun σ H Q => ∀ (pos : Pos) pins s, Inv X pins σ H s → wpAny (model X.prog X.w) X.A (spliced (backTo pos (starEach es X.env))) (AP X pins σ Q) X.xe s
def tS (X : Cx) (st : Stmt) : TS := fun D σ H => ∀ pins s, Inv X pins σ H s → wpAny (model X.prog X.w) X.A (exec st X.env) (SP X pins D) X.xe s
def tSs (X : Cx) (st : List Stmt) : TS := fun D σ H => ∀ pins s, Inv X pins σ H s → wpAny (model X.prog X.w) X.A (execs st X.env) (SP X pins D) X.xe s
theorem selfE {e : Expr} : PE X e (tE X e) := ⟨fun pins s _ _ _ I h => h pins s I⟩
theorem selfT {e : Expr} : PT X e (tT X e) := ⟨fun pins s _ _ _ I h => h pins s I⟩
theorem selfW {e : Expr} : PW X e (tW X e) := ⟨fun wh pins s _ _ _ I h => h wh pins s I⟩
theorem selfA {es : List Expr} : PA X es (tA X es) := ⟨fun pos pins s _ _ _ I h => h pos pins s I⟩
theorem selfS {st : Stmt} : PS X st (tS X st) := ⟨fun pins s _ _ _ I h => h pins s I⟩
theorem selfSs {st : List Stmt} : PSs X st (tSs X st) := ⟨fun pins s _ _ _ I h => h pins s I⟩
theorem tE_mono {e : Expr} {σ : L2.St} {H : Hp} {Q R : VK} (h : tE X e σ H Q) (k : ∀ v H, Q v H → R v H) : tE X e σ H R := fun pins s I =>
  thn (h pins s I) fun u s' ⟨v, H', I', r, q⟩ => ⟨v, H', I', r, k v H' q⟩
theorem tT_mono {e : Expr} {σ : L2.St} {H : Hp} {Q R : Bool → Hp → Prop} (h : tT X e σ H Q) (k : ∀ v H, Q v H → R v H) : tT X e σ H R := fun pins s I =>
  thn (h pins s I) fun u s' ⟨H', I', q⟩ => ⟨H', I', k _ H' q⟩
theorem tW_mono {e : Expr} {σ : L2.St} {H : Hp} {Q R : Bool → Hp → Prop} (h : tW X e σ H Q) (k : ∀ v H, Q v H → R v H) : tW X e σ H R := fun wh pins s I =>
  thn (h wh pins s I) fun u s' ⟨H', I', q⟩ => ⟨H', I', k _ H' q⟩
theorem tA_mono {es : List Expr} {σ : L2.St} {H : Hp} {Q R : List V → Hp → Prop} (h : tA X es σ H Q) (k : ∀ v H, Q v H → R v H) : tA X es σ H R := fun pos pins s I =>
  thn (h pos pins s I) fun u s' ⟨vs, H', I', r, q⟩ => ⟨vs, H', I', r, k _ H' q⟩
/-- weaker ends -/
structure EndsLe (D E : Ends) : Prop where
  nx : ∀ σ H, D.nx σ H → E.nx σ H
  rt : ∀ v H, D.rt v H → E.rt v H
  bk : ∀ σ H, D.bk σ H → E.bk σ H
  ct : ∀ σ H, D.ct σ H → E.ct σ H
theorem SP_mono {pins : List (Addr × Obj)} {D E : Ends} {f : Flow} {s' : Shared} (k : EndsLe D E) (h : SP X pins D f s') : SP X pins E f s' := by
  cases f with
  | next => obtain ⟨σ', H', I', q⟩ := h; exact ⟨σ', H', I', k.nx _ _ q⟩
  | brk => obtain ⟨σ', H', I', q⟩ := h; exact ⟨σ', H', I', k.bk _ _ q⟩
  | cont => obtain ⟨σ', H', I', q⟩ := h; exact ⟨σ', H', I', k.ct _ _ q⟩
  | ret u => obtain ⟨v, σ', H', I', r, q⟩ := h; exact ⟨v, σ', H', I', r, k.rt _ _ q⟩
theorem tS_mono {st : Stmt} {σ : L2.St} {H : Hp} {D E : Ends} (h : tS X st D σ H) (k : EndsLe D E) : tS X st E σ H := fun pins s I => thn (h pins s I) fun _ _ q => SP_mono k q
theorem tSs_mono {st : List Stmt} {σ : L2.St} {H : Hp} {D E : Ends} (h : tSs X st D σ H) (k : EndsLe D E) : tSs X st E σ H := fun pins s I => thn (h pins s I) fun _ _ q => SP_mono k q
end

/-! ### the judgements by value -/
def PostB (K : PySem.W.Frag) (I : Hp) (Q : Bool → OH → Prop) : Bool → Hp → Prop := fun b H => ∃ J O, Same I J ∧ Hd K J O H ∧ Q b O
def PostA (K : PySem.W.Frag) (I : Hp) (Q : List D → OH → Prop) : List V → Hp → Prop := fun vs H => ∃ J O ds, Same I J ∧ Hd K J O H ∧ Reps K J ds vs ∧ Q ds O
structure ED where
  nx : EN → OH → Prop
  rt : D → OH → Prop
  bk : EN → OH → Prop := fun _ _ => False
  ct : EN → OH → Prop := fun _ _ => False
def PostS (K : PySem.W.Frag) (I : Hp) (Q : EN → OH → Prop) : L2.St → Hp → Prop := fun σ H => ∃ J O δ, Same I J ∧ Hd K J O H ∧ EOk K J σ δ ∧ Q δ O
def endsOf (K : PySem.W.Frag) (I : Hp) (E : ED) : Ends := ⟨PostS K I E.nx, Post K I E.rt, PostS K I E.bk, PostS K I E.ct⟩

def DE (X : Cx) (B : Hp) (e : Expr) (δ : EN) (O : OH) (Q : D → OH → Prop) : Prop := ∀ σ H I, EOk X.K I σ δ → Hd X.K I O H → Same B I → tE X e σ H (Post X.K I Q)
def DT (X : Cx) (B : Hp) (e : Expr) (δ : EN) (O : OH) (Q : Bool → OH → Prop) : Prop := ∀ σ H I, EOk X.K I σ δ → Hd X.K I O H → Same B I → tT X e σ H (PostB X.K I Q)
def DW (X : Cx) (B : Hp) (e : Expr) (δ : EN) (O : OH) (Q : Bool → OH → Prop) : Prop := ∀ σ H I, EOk X.K I σ δ → Hd X.K I O H → Same B I → tW X e σ H (PostB X.K I Q)
def DA (X : Cx) (B : Hp) (es : List Expr) (δ : EN) (O : OH) (Q : List D → OH → Prop) : Prop := ∀ σ H I, EOk X.K I σ δ → Hd X.K I O H → Same B I → tA X es σ H (PostA X.K I Q)
def DS (X : Cx) (B : Hp) (st : Stmt) (E : ED) (δ : EN) (O : OH) : Prop := ∀ σ H I, EOk X.K I σ δ → Hd X.K I O H → Same B I → tS X st (endsOf X.K I E) σ H
def DSs (X : Cx) (B : Hp) (st : List Stmt) (E : ED) (δ : EN) (O : OH) : Prop := ∀ σ H I, EOk X.K I σ δ → Hd X.K I O H → Same B I → tSs X st (endsOf X.K I E) σ H

section
variable {X : Cx} {B : Hp} {e a b c : Expr} {δ : EN} {O : OH} {Q R : D → OH → Prop} {pos : Pos} {K : PySem.W.Frag} {I J : Hp}
theorem PostB.mono {Q R : Bool → OH → Prop} {v : Bool} {H : Hp} (e : Same I J) (h : PostB K J Q v H) (k : ∀ d O, Q d O → R d O) : PostB K I R v H := by
  obtain ⟨J', O, s, hh, q⟩ := h
  exact ⟨J', O, e.trans s, hh, k _ _ q⟩
theorem PostA.mono {Q R : List D → OH → Prop} {v : List V} {H : Hp} (e : Same I J) (h : PostA K J Q v H) (k : ∀ d O, Q d O → R d O) : PostA K I R v H := by
  obtain ⟨J', O, ds, s, hh, r, q⟩ := h
  exact ⟨J', O, ds, e.trans s, hh, r, k _ _ q⟩
theorem PostS.mono {Q R : EN → OH → Prop} {σ : L2.St} {H : Hp} (e : Same I J) (h : PostS K J Q σ H) (k : ∀ d O, Q d O → R d O) : PostS K I R σ H := by
  obtain ⟨J', O, ds, s, hh, r, q⟩ := h
  exact ⟨J', O, ds, e.trans s, hh, r, k _ _ q⟩
/-- a weaker end by value -/
structure EDLe (D E : ED) : Prop where
  nx : ∀ σ H, D.nx σ H → E.nx σ H
  rt : ∀ v H, D.rt v H → E.rt v H
  bk : ∀ σ H, D.bk σ H → E.bk σ H
  ct : ∀ σ H, D.ct σ H → E.ct σ H
theorem endsLe {E F : ED} (e : Same I J) (k : EDLe E F) : EndsLe (endsOf K J E) (endsOf K I F) :=
  ⟨fun _ _ h => h.mono e k.nx, fun _ _ h => h.mono e k.rt, fun _ _ h => h.mono e k.bk, fun _ _ h => h.mono e k.ct⟩
theorem DE.of {t : TE} (h : PE X e t) (k : ∀ σ H I, EOk X.K I σ δ → Hd X.K I O H → Same B I → t σ H (Post X.K I Q)) : DE X B e δ O Q := fun σ H I a b c pins s J => h.run pins s σ H _ J (k σ H I a b c)
theorem DT.of {t : TT} {Q : Bool → OH → Prop} (h : PT X e t) (k : ∀ σ H I, EOk X.K I σ δ → Hd X.K I O H → Same B I → t σ H (PostB X.K I Q)) : DT X B e δ O Q := fun σ H I a b c pins s J => h.run pins s σ H _ J (k σ H I a b c)
theorem DW.of {t : TT} {Q : Bool → OH → Prop} (h : PW X e t) (k : ∀ σ H I, EOk X.K I σ δ → Hd X.K I O H → Same B I → t σ H (PostB X.K I Q)) : DW X B e δ O Q := fun σ H I a b c wh pins s J => h.run wh pins s σ H _ J (k σ H I a b c)
theorem DA.of {es : List Expr} {t : TA} {Q : List D → OH → Prop} (h : PA X es t) (k : ∀ σ H I, EOk X.K I σ δ → Hd X.K I O H → Same B I → t σ H (PostA X.K I Q)) : DA X B es δ O Q := fun σ H I a b c ps pins s J => h.run ps pins s σ H _ J (k σ H I a b c)
theorem DS.of {st : Stmt} {t : TS} {E : ED} (h : PS X st t) (k : ∀ σ H I, EOk X.K I σ δ → Hd X.K I O H → Same B I → t (endsOf X.K I E) σ H) : DS X B st E δ O := fun σ H I a b c pins s J => h.run pins s σ H _ J (k σ H I a b c)
theorem DSs.of {st : List Stmt} {t : TS} {E : ED} (h : PSs X st t) (k : ∀ σ H I, EOk X.K I σ δ → Hd X.K I O H → Same B I → t (endsOf X.K I E) σ H) : DSs X B st E δ O := fun σ H I a b c pins s J => h.run pins s σ H _ J (k σ H I a b c)
theorem DE.mono (h : DE X B e δ O Q) (k : ∀ d O, Q d O → R d O) : DE X B e δ O R := fun σ H I a b c => tE_mono (h σ H I a b c) fun _ _ p => p.mono (Same.refl _) k
theorem DT.mono {Q R : Bool → OH → Prop} (h : DT X B e δ O Q) (k : ∀ d O, Q d O → R d O) : DT X B e δ O R := fun σ H I a b c => tT_mono (h σ H I a b c) fun _ _ p => p.mono (Same.refl _) k
theorem DSs.mono {st : List Stmt} {E F : ED} (h : DSs X B st E δ O) (k : EDLe E F) : DSs X B st F δ O := fun σ H I a b c => tSs_mono (h σ H I a b c) (endsLe (Same.refl _) k)
/-- forgetting cells -/
theorem DE.weak {O' : OH} (h : DE X B e δ O' Q) (s : SubO O' O) : DE X B e δ O Q := fun σ H I a b c => h σ H I a (b.weak s) c
theorem DSs.weak {st : List Stmt} {E : ED} {O' : OH} (h : DSs X B st E δ O') (s : SubO O' O) : DSs X B st E δ O := fun σ H I a b c => h σ H I a (b.weak s) c

/-! ### names -/
inductive NmAt : List Str → EN → Str → D → Prop
  | here {x N d δ} : NmAt (x :: N) (some d :: δ) x d
  | there {x y N d e δ} : NmAt N δ x d → NmAt (y :: N) (e :: δ) x d
theorem NmAt.ix {N : List Str} {x : Str} {d : D} (h : NmAt N δ x d) : ∃ i : Nat, N[i]? = some x ∧ δ[i]? = some (some d) := by
  induction h with
  | here => exact ⟨0, rfl, rfl⟩
  | there _ ih => obtain ⟨i, h1, h2⟩ := ih; exact ⟨i + 1, by simpa using h1, by simpa using h2⟩
inductive SetS : List Str → EN → Str → D → EN → Prop
  | here {x N d e δ} : SetS (x :: N) (e :: δ) x d (some d :: δ)
  | there {x y N d e δ δ'} : SetS N δ x d δ' → SetS (y :: N) (e :: δ) x d (e :: δ')
theorem SetS.ix {N : List Str} {x : Str} {d : D} {δ' : EN} (h : SetS N δ x d δ') : ∃ i : Nat, N[i]? = some x ∧ δ.set i (some d) = δ' := by
  induction h with
  | here => exact ⟨0, rfl, rfl⟩
  | there _ ih => obtain ⟨i, h1, h2⟩ := ih; exact ⟨i + 1, by simpa using h1, by rw [List.set_cons_succ, h2]⟩
theorem de_name {N : List Str} {x : Str} {d : D} (hN : X.N = N) (hs : NmAt N δ x d) (hv : Vis X.env.scope x) (q : Q d O) (h1 : (x == ("__debug__" : Str)) = false := by decide) (h2 : (x == ("__classdict__" : Str)) = false := by decide) : DE X B (.Name x pos) δ O Q := by
  obtain ⟨i, hi, hd⟩ := hs.ix
  refine DE.of (pe_var (i := i) (by rw [hN]; exact hi) hv h1 h2) fun σ H I a b c => ?_
  obtain ⟨v, hv, r⟩ := a.2 i d hd
  exact ⟨v, hv, .of b (Same.refl _) r q⟩
theorem de_int {i : Int} {j} (q : Q (.int i) O) : DE X B (.Constant (.int i) j pos) δ O Q := DE.of pe_int fun _ _ _ _ b _ => .of b (Same.refl _) .int q
theorem de_bl {i : Bool} {j} (q : Q (.bl i) O) : DE X B (.Constant (.bool i) j pos) δ O Q := DE.of pe_bl fun _ _ _ _ b _ => .of b (Same.refl _) .bl q
theorem de_non {j} (q : Q .non O) : DE X B (.Constant .none j pos) δ O Q := DE.of pe_non fun _ _ _ _ b _ => .of b (Same.refl _) .non q
theorem de_str {x : Str} {j} (q : Q (.str x) O) : DE X B (.Constant (.str x) j pos) δ O Q := DE.of pe_str fun _ _ _ _ b _ => .of b (Same.refl _) .str q
/-- a global: a class, a def, as a value; a text, an int -/
theorem de_globR {x : Str} {a : Addr} (hm : X.mg x = some (.ref a)) (hg : Gl X x) (q : Q (.ptr a) O) (hd : (x == ("__debug__" : Str)) = false := by decide) : DE X B (.Name x pos) δ O Q := DE.of (pe_glob (v := .ref a) hg hm rfl hd) fun _ _ _ _ b _ => .of b (Same.refl _) .ptr q
theorem de_globS {x y : Str} {t : Tok} (hm : X.mg x = some (.str y t)) (hg : Gl X x) (q : Q (.str y) O) (hd : (x == ("__debug__" : Str)) = false := by decide) : DE X B (.Name x pos) δ O Q := DE.of (pe_glob (v := .str y) hg hm ⟨t, rfl⟩ hd) fun _ _ _ _ b _ => .of b (Same.refl _) .str q
theorem de_globI {x : Str} {i : Int} {t : Tok} (hm : X.mg x = some (.int i t)) (hg : Gl X x) (q : Q (.int i) O) (hd : (x == ("__debug__" : Str)) = false := by decide) : DE X B (.Name x pos) δ O Q := DE.of (pe_glob (v := .int i) hg hm ⟨t, rfl⟩ hd) fun _ _ _ _ b _ => .of b (Same.refl _) .int q
theorem de_bltn {x : Str} {n : String} (hm : X.mg x = none) (hg : Gl X x) (hv : bootBuiltins x = some (.type n)) (q : Q (.ty n) O) (hn : x ≠ "__name__" := by decide) (hd : (x == ("__debug__" : Str)) = false := by decide) : DE X B (.Name x pos) δ O Q := DE.of (pe_bltn (v := .ty n) hg hm hv rfl hn hd) fun _ _ _ _ b _ => .of b (Same.refl _) .ty q

/-! ### two-place operations -/
def rF (X : Cx) (f : Value → Value → Sem Value) : R2 := fun x y H Q => ∀ pins s σ v u, Inv X pins σ H s → RelV x v → RelV y u → wpAny (model X.prog X.w) X.A (f v u) (EP X pins σ Q) X.xe s
theorem rF_op {f : Value → Value → Sem Value} : OpR X f (rF X f) := fun pins s σ H x y v u Q I rx ry h => h pins s σ v u I rx ry
def BinD (X : Cx) (B : Hp) (f : Value → Value → Sem Value) (x y : D) (O : OH) (Q : D → OH → Prop) : Prop :=
  ∀ I H vx vy, Hd X.K I O H → Same B I → Rep X.K I x vx → Rep X.K I y vy → rF X f vx vy H (Post X.K I Q)
theorem BinD.of {f : Value → Value → Sem Value} {r : R2} {x y : D} (h : OpR X f r) (k : ∀ I H vx vy, Hd X.K I O H → Same B I → Rep X.K I x vx → Rep X.K I y vy → r vx vy H (Post X.K I Q)) : BinD X B f x y O Q :=
  fun I H vx vy a b c d pins s σ v u J rx ry => h pins s σ H vx vy v u _ J rx ry (k I H vx vy a b c d)
theorem de_bin {op : Operator} (h : DE X B a δ O fun x O1 => DE X B b δ O1 fun y O2 => BinD X B (binaryOp op) x y O2 Q) : DE X B (.BinOp a op b pos) δ O Q :=
  DE.of (pe_op rF_op selfE selfE) fun σ H I e1 h1 b1 => tE_mono (h σ H I e1 h1 b1) fun x H1 ⟨I1, O1, d1, s1, h2, r1, q1⟩ =>
    tE_mono (q1 σ H1 I1 (e1.mono s1) h2 (b1.trans s1)) fun y H2 ⟨I2, O2, d2, s2, h3, r2, q2⟩ => by
      intro pins s σ' v u J rx ry
      exact thn (q2 I2 H2 x y h3 ((b1.trans s1).trans s2) (r1.mono s2) r2 pins s σ' v u J rx ry) fun w s' ⟨z, H', J', rz, p⟩ => ⟨z, H', J', rz, p.mono (s1.trans s2) fun _ _ q => q⟩
theorem de_cmp {op : CmpOp} (hm : behindInMarks op b = false) (h : DE X B a δ O fun x O1 => DE X B b δ O1 fun y O2 => BinD X B (compareOp op) x y O2 Q) : DE X B (.Compare a [op] [b] pos) δ O Q :=
  DE.of (pe_cmpR rF_op selfE selfE hm) fun σ H I e1 h1 b1 => tE_mono (h σ H I e1 h1 b1) fun x H1 ⟨I1, O1, d1, s1, h2, r1, q1⟩ =>
    tE_mono (q1 σ H1 I1 (e1.mono s1) h2 (b1.trans s1)) fun y H2 ⟨I2, O2, d2, s2, h3, r2, q2⟩ => by
      intro pins s σ' v u J rx ry
      exact thn (q2 I2 H2 x y h3 ((b1.trans s1).trans s2) (r1.mono s2) r2 pins s σ' v u J rx ry) fun w s' ⟨z, H', J', rz, p⟩ => ⟨z, H', J', rz, p.mono (s1.trans s2) fun _ _ q => q⟩
/-- a subscript -/
def rX (X : Cx) : R2 := fun x y H Q => ∀ value slice pins s σ v u, Inv X pins σ H s → RelV x v → RelV y u → subscripted slice false v u = operate [v, u] (getItem v u) → wpAny (model X.prog X.w) X.A (subscriptTail value slice v u) (EP X pins σ Q) X.xe s
theorem rX_op : IxR X (rX X) := fun value slice pins s σ H x y v u Q I rx ry h e => h value slice pins s σ v u I rx ry e
def IxD (X : Cx) (B : Hp) (x y : D) (O : OH) (Q : D → OH → Prop) : Prop :=
  ∀ I H vx vy, Hd X.K I O H → Same B I → Rep X.K I x vx → Rep X.K I y vy → rX X vx vy H (Post X.K I Q)
theorem IxD.of {r : R2} {x y : D} (h : IxR X r) (k : ∀ I H vx vy, Hd X.K I O H → Same B I → Rep X.K I x vx → Rep X.K I y vy → r vx vy H (Post X.K I Q)) : IxD X B x y O Q :=
  fun I H vx vy a b c d value slice pins s σ v u J rx ry e => h value slice pins s σ H vx vy v u _ J rx ry (k I H vx vy a b c d) e
theorem de_sub (h : DE X B a δ O fun x O1 => DE X B b δ O1 fun y O2 => IxD X B x y O2 Q) (hs : PlainIx b := by exact fun _ _ => rfl) : DE X B (.Subscript a b pos) δ O Q :=
  DE.of (pe_ix rX_op selfE selfE hs) fun σ H I e1 h1 b1 => tE_mono (h σ H I e1 h1 b1) fun x H1 ⟨I1, O1, d1, s1, h2, r1, q1⟩ =>
    tE_mono (q1 σ H1 I1 (e1.mono s1) h2 (b1.trans s1)) fun y H2 ⟨I2, O2, d2, s2, h3, r2, q2⟩ => by
      intro value slice pins s σ' v u J rx ry he
      exact thn (q2 I2 H2 x y h3 ((b1.trans s1).trans s2) (r1.mono s2) r2 value slice pins s σ' v u J rx ry he) fun w s' ⟨z, H', J', rz, p⟩ => ⟨z, H', J', rz, p.mono (s1.trans s2) fun _ _ q => q⟩

/-! ### ints -/
theorem bi_I {f : Value → Value → Sem Value} {C : Int → Int → Prop} {g : Int → Int → V} {gd : Int → Int → D} {i j : Int} (h : OpR X f (rI C g)) (hg : ∀ I i j, Rep X.K I (gd i j) (g i j)) (hc : C i j) (q : Q (gd i j) O) : BinD X B f (.int i) (.int j) O Q :=
  BinD.of h fun I H vx vy a _ r1 r2 => by cases r1; cases r2; exact ⟨i, j, rfl, rfl, hc, .of a (Same.refl _) (hg I i j) q⟩
theorem bi_I0 {f : Value → Value → Sem Value} {g : Int → Int → V} {gd : Int → Int → D} {i j : Int} (h : OpR X f (rI0 g)) (hg : ∀ I i j, Rep X.K I (gd i j) (g i j)) (q : Q (gd i j) O) : BinD X B f (.int i) (.int j) O Q :=
  BinD.of h fun I H vx vy a _ r1 r2 => by cases r1; cases r2; exact ⟨i, j, rfl, rfl, .of a (Same.refl _) (hg I i j) q⟩
theorem bi_add {i j : Int} (q : Q (.int (i + j)) O) : BinD X B (binaryOp .Add) (.int i) (.int j) O Q := bi_I0 (gd := fun i j => .int (i + j)) op_add (fun _ _ _ => .int) q
theorem bi_sub {i j : Int} (q : Q (.int (i - j)) O) : BinD X B (binaryOp .Sub) (.int i) (.int j) O Q := bi_I0 (gd := fun i j => .int (i - j)) op_sub (fun _ _ _ => .int) q
theorem bi_mul {i j : Int} (hc : CMulW i j) (q : Q (.int (i * j)) O) : BinD X B (binaryOp .Mult) (.int i) (.int j) O Q := bi_I (gd := fun i j => .int (i * j)) op_mulW (fun _ _ _ => .int) hc q
theorem bi_mod {i j : Int} (hc : 0 < j) (q : Q (.int (i % j)) O) : BinD X B (binaryOp .Mod) (.int i) (.int j) O Q := bi_I (gd := fun i j => .int (i % j)) op_mod (fun _ _ _ => .int) hc q
theorem bi_div {i j : Int} (hc : CDivW i j) (q : Q (.int (i / j)) O) : BinD X B (binaryOp .FloorDiv) (.int i) (.int j) O Q := bi_I (gd := fun i j => .int (i / j)) op_fdivW (fun _ _ _ => .int) hc q
theorem bi_pow {i j : Int} (hc : CPow i j) (q : Q (.int (i ^ j.toNat)) O) : BinD X B (binaryOp .Pow) (.int i) (.int j) O Q := bi_I (gd := fun i j => .int (i ^ j.toNat)) op_pow (fun _ _ _ => .int) hc q
theorem cm_lt {i j : Int} (q : Q (.bl (decide (i < j))) O) : BinD X B (compareOp .Lt) (.int i) (.int j) O Q := bi_I0 (gd := fun i j => .bl (decide (i < j))) op_lt (fun _ _ _ => .bl) q
theorem cm_le {i j : Int} (q : Q (.bl (decide (i ≤ j))) O) : BinD X B (compareOp .LtE) (.int i) (.int j) O Q := bi_I0 (gd := fun i j => .bl (decide (i ≤ j))) op_le (fun _ _ _ => .bl) q
theorem cm_gt {i j : Int} (q : Q (.bl (decide (j < i))) O) : BinD X B (compareOp .Gt) (.int i) (.int j) O Q := bi_I0 (gd := fun i j => .bl (decide (j < i))) op_gt (fun _ _ _ => .bl) q
theorem cm_ge {i j : Int} (q : Q (.bl (decide (j ≤ i))) O) : BinD X B (compareOp .GtE) (.int i) (.int j) O Q := bi_I0 (gd := fun i j => .bl (decide (j ≤ i))) op_ge (fun _ _ _ => .bl) q

/-! ### == -/
theorem dec_congr {p q : Prop} [Decidable p] [Decidable q] (h : p ↔ q) : decide p = decide q := by
  by_cases hp : p
  · rw [decide_eq_true hp, decide_eq_true (h.mp hp)]
  · rw [decide_eq_false hp, decide_eq_false fun z => hp (h.mpr z)]
theorem cm_eqI {i j : Int} (q : Q (.bl (decide (i = j))) O) : BinD X B (compareOp .Eq) (.int i) (.int j) O Q :=
  BinD.of op_eq fun I H vx vy a _ r1 r2 => by
    cases r1; cases r2
    refine ⟨rfl, ?_⟩
    rw [show decide (V.int i = V.int j) = decide (i = j) from dec_congr ⟨fun h => by injection h, fun h => by rw [h]⟩]
    exact .of a (Same.refl _) .bl q
theorem cm_neI {i j : Int} (q : Q (.bl (!decide (i = j))) O) : BinD X B (compareOp .NotEq) (.int i) (.int j) O Q :=
  BinD.of op_ne fun I H vx vy a _ r1 r2 => by
    cases r1; cases r2
    refine ⟨rfl, ?_⟩
    rw [show decide (V.int i = V.int j) = decide (i = j) from dec_congr ⟨fun h => by injection h, fun h => by rw [h]⟩]
    exact .of a (Same.refl _) .bl q
theorem cm_eqS {i j : Str} (q : Q (.bl (decide (i = j))) O) : BinD X B (compareOp .Eq) (.str i) (.str j) O Q :=
  BinD.of op_eq fun I H vx vy a _ r1 r2 => by
    cases r1; cases r2
    refine ⟨rfl, ?_⟩
    rw [show decide (V.str i = V.str j) = decide (i = j) from dec_congr ⟨fun h => by injection h, fun h => by rw [h]⟩]
    exact .of a (Same.refl _) .bl q
theorem cm_neS {i j : Str} (q : Q (.bl (!decide (i = j))) O) : BinD X B (compareOp .NotEq) (.str i) (.str j) O Q :=
  BinD.of op_ne fun I H vx vy a _ r1 r2 => by
    cases r1; cases r2
    refine ⟨rfl, ?_⟩
    rw [show decide (V.str i = V.str j) = decide (i = j) from dec_congr ⟨fun h => by injection h, fun h => by rw [h]⟩]
    exact .of a (Same.refl _) .bl q
/-- == of unlike scalars -/
theorem cm_eqx {x y : D} {v u : V} (h1 : ∀ I w, Rep X.K I x w → w = v) (h2 : ∀ I w, Rep X.K I y w → w = u) (hs : scal v u = true) (hd : decide (v = u) = false) (q : Q (.bl false) O) : BinD X B (compareOp .Eq) x y O Q :=
  BinD.of op_eq fun I H vx vy a _ r1 r2 => by
    rw [h1 _ _ r1, h2 _ _ r2]
    exact ⟨hs, by rw [hd]; exact .of a (Same.refl _) .bl q⟩
theorem cm_nex {x y : D} {v u : V} (h1 : ∀ I w, Rep X.K I x w → w = v) (h2 : ∀ I w, Rep X.K I y w → w = u) (hs : scal v u = true) (hd : decide (v = u) = false) (q : Q (.bl true) O) : BinD X B (compareOp .NotEq) x y O Q :=
  BinD.of op_ne fun I H vx vy a _ r1 r2 => by
    rw [h1 _ _ r1, h2 _ _ r2]
    exact ⟨hs, by rw [hd]; exact .of a (Same.refl _) .bl q⟩
theorem cm_isN_yes (q : Q (.bl true) O) : BinD X B (compareOp .Is) .non .non O Q :=
  BinD.of op_isN fun I H vx vy a _ r1 r2 => by cases r1; cases r2; exact ⟨rfl, .of a (Same.refl _) .bl q⟩
theorem rep_ne_non {I : Hp} {x : D} {v : V} (h : x ≠ .non) (r : Rep X.K I x v) : v ≠ .non := by
  intro e; subst e; cases r; exact h rfl
theorem cm_isN_no {x : D} (h : x ≠ .non) (q : Q (.bl false) O) : BinD X B (compareOp .Is) x .non O Q :=
  BinD.of op_isN fun I H vx vy a _ r1 r2 => by
    cases r2
    refine ⟨rfl, ?_⟩
    rw [decide_eq_false (rep_ne_non h r1)]
    exact .of a (Same.refl _) .bl q
theorem cm_notN_yes {x : D} (h : x ≠ .non) (q : Q (.bl true) O) : BinD X B (compareOp .IsNot) x .non O Q :=
  BinD.of op_notN fun I H vx vy a _ r1 r2 => by
    cases r2
    refine ⟨rfl, ?_⟩
    rw [decide_eq_false (rep_ne_non h r1)]
    exact .of a (Same.refl _) .bl q
theorem cm_notN_no (q : Q (.bl false) O) : BinD X B (compareOp .IsNot) .non .non O Q :=
  BinD.of op_notN fun I H vx vy a _ r1 r2 => by cases r1; cases r2; exact ⟨rfl, .of a (Same.refl _) .bl q⟩

end
/-! ### plain data: deep == -/
mutual
inductive Pl : D → PyData → Prop
  | non : Pl .non .none
  | bl {b} : Pl (.bl b) (.bool b)
  | int {i} : Pl (.int i) (.int i)
  | str {x} : Pl (.str x) (.str x)
  | tup {ds ps} : Pls ds ps → Pl (.tup ds) (.tuple ps)
  | lst {ds ps} : Pls ds ps → Pl (.lst ds) (.list ps)
  | lsk {ds ps} : Pls ds ps → Pl (.lsk ds) (.list ps)
inductive Pls : List D → List PyData → Prop
  | nil : Pls [] []
  | cons {d p ds ps} : Pl d p → Pls ds ps → Pls (d :: ds) (p :: ps)
end
mutual
theorem Pl.dp {K : PySem.W.Frag} {I H : Hp} (s : Same I H) : ∀ {d p v}, Pl d p → Rep K I d v → Dp K H v p
  | _, _, _, .non, .non => .non
  | _, _, _, .bl, .bl => .bl _
  | _, _, _, .int, .int => .int _
  | _, _, _, .str, .str => .str _
  | _, _, _, .tup h, .tup h1 r => .tup (sameT s h1) (Pls.dp s h r)
  | _, _, _, .lst h, .lst h1 r => .lst (SqL.of (s _ _ h1)) (Pls.dp s h r)
  | _, _, _, .lsk h, .lsk h1 r => .lst (s.seq h1) (Pls.dp s h r)
theorem Pls.dp {K : PySem.W.Frag} {I H : Hp} (s : Same I H) : ∀ {d p v}, Pls d p → Reps K I d v → DpAll K H v p
  | _, _, _, .nil, .nil => .nil
  | _, _, _, .cons h hs, .cons r rs => .cons (Pl.dp s h r) (Pls.dp s hs rs)
end
/-- .. also of a cell's list -/
inductive PlO (O : OH) : D → PyData → Prop
  | pl {d p} : Pl d p → PlO O d p
  | cell {a ds ps} : O a = some (.lst ds) → Pls ds ps → PlO O (.ptr a) (.list ps)
section
variable {X : Cx} {B : Hp} {e a b c : Expr} {δ : EN} {O : OH} {Q R : D → OH → Prop} {pos : Pos} {K : PySem.W.Frag} {I J : Hp}
theorem PlO.dp {I H : Hp} {d : D} {p : PyData} {v : V} (h : PlO O d p) (a : Hd K I O H) (r : Rep K I d v) : Dp K H v p := by
  cases h with
  | pl h => exact h.dp a.sub r
  | cell h hs =>
    cases r
    obtain ⟨_, vs, h1, h2⟩ := a.cel _ _ h
    exact .lst (SqL.of h1) (hs.dp a.sub h2)
theorem cm_eqD {x y : D} {p r : PyData} (hu : X.A.units + 64 < cLine) (h1 : PlO O x p) (h2 : PlO O y r) (s1 : SeqAt.shaped p = true) (s2 : SeqAt.shaped r = true) (q : Q (.bl (PyData.eqv p r)) O) : BinD X B (compareOp .Eq) x y O Q :=
  BinD.of (op_eqD hu) fun I H vx vy a _ r1 r2 => ⟨p, r, h1.dp a r1, h2.dp a r2, s1, s2, .of a (Same.refl _) .bl q⟩
theorem cm_neD {x y : D} {p r : PyData} (hu : X.A.units + 64 < cLine) (h1 : PlO O x p) (h2 : PlO O y r) (s1 : SeqAt.shaped p = true) (s2 : SeqAt.shaped r = true) (q : Q (.bl (!PyData.eqv p r)) O) : BinD X B (compareOp .NotEq) x y O Q :=
  BinD.of (op_neD hu) fun I H vx vy a _ r1 r2 => ⟨p, r, h1.dp a r1, h2.dp a r2, s1, s2, .of a (Same.refl _) .bl q⟩

/-! ### texts -/
theorem bi_cat {x y : Str} (hl : x.length + y.length ≤ sizeLine) (q : Q (.str (x ++ y)) O) : BinD X B (binaryOp .Add) (.str x) (.str y) O Q :=
  BinD.of op_add_str fun I H vx vy a _ r1 r2 => by cases r1; cases r2; exact ⟨x, y, rfl, rfl, hl, .of a (Same.refl _) .str q⟩
theorem cm_inSign {c : Nat} {z : Str} (q : Q (.bl (decide (c ∈ z.cps.toList))) O) : BinD X B (compareOp .In) (.str ⟨#[c]⟩) (.str z) O Q :=
  BinD.of op_in_sign fun I H vx vy a _ r1 r2 => by cases r1; cases r2; exact ⟨c, z, rfl, rfl, .of a (Same.refl _) .bl q⟩
theorem cm_notInSign {c : Nat} {z : Str} (q : Q (.bl (!decide (c ∈ z.cps.toList))) O) : BinD X B (compareOp .NotIn) (.str ⟨#[c]⟩) (.str z) O Q :=
  BinD.of op_notIn_sign fun I H vx vy a _ r1 r2 => by cases r1; cases r2; exact ⟨c, z, rfl, rfl, .of a (Same.refl _) .bl q⟩
theorem ix_strD {z : Str} {i : Int} {c : Nat} (hl : z.length ≤ sizeLine) (h : atI z.cps.toList i = some c) (q : Q (.str ⟨#[c]⟩) O) : IxD X B (.str z) (.int i) O Q :=
  IxD.of ix_str fun I H vx vy a _ r1 r2 => by cases r1; cases r2; exact ⟨z, i, c, rfl, rfl, hl, h, .of a (Same.refl _) .str q⟩

/-! ### lists and tuples -/
/-- a list that may be read -/
inductive RdL (O : OH) : D → List D → Prop
  | lst {ds} : RdL O (.lst ds) ds
  | lsk {ds} : RdL O (.lsk ds) ds
  | cell {a ds} : O a = some (.lst ds) → RdL O (.ptr a) ds
theorem RdL.seq {I H : Hp} {d : D} {ds : List D} {v : V} (h : RdL O d ds) (a : Hd K I O H) (r : Rep K I d v) : ∃ p vs, v = .ref p ∧ SqL K H p vs ∧ Reps K I ds vs := by
  cases h with
  | lst => cases r with | lst h1 h2 => exact ⟨_, _, rfl, SqL.of (a.sub _ _ h1), h2⟩
  | lsk => cases r with | lsk h1 h2 => exact ⟨_, _, rfl, a.sub.seq h1, h2⟩
  | cell h =>
    cases r
    obtain ⟨_, vs, h1, h2⟩ := a.cel _ _ h
    exact ⟨_, vs, rfl, SqL.of h1, h2⟩
/-- .. that the program itself has made -/
inductive OwL (O : OH) : D → List D → Prop
  | lst {ds} : OwL O (.lst ds) ds
  | cell {a ds} : O a = some (.lst ds) → OwL O (.ptr a) ds
theorem OwL.at {I H : Hp} {d : D} {ds : List D} {v : V} (h : OwL O d ds) (a : Hd K I O H) (r : Rep K I d v) : ∃ p vs, v = .ref p ∧ H p = some (.lst vs) ∧ Reps K I ds vs := by
  cases h with
  | lst => cases r with | lst h1 h2 => exact ⟨_, _, rfl, a.sub _ _ h1, h2⟩
  | cell h =>
    cases r
    obtain ⟨_, vs, h1, h2⟩ := a.cel _ _ h
    exact ⟨_, vs, rfl, h1, h2⟩
theorem tup_seq {I H : Hp} {ds : List D} {v : V} (a : Hd K I O H) (r : Rep K I (.tup ds) v) : ∃ p vs, v = .ref p ∧ SqT K H p vs ∧ Reps K I ds vs := by
  cases r with | tup h1 h2 => exact ⟨_, _, rfl, sameT a.sub h1, h2⟩
theorem Reps.atI {ds : List D} {vs : List V} {i : Int} {d : D} {I : Hp} (r : Reps K I ds vs) (h : atI ds i = some d) : ∃ v, atI vs i = some v ∧ Rep K I d v := by
  unfold L2.atI at h ⊢
  rw [← r.len]
  cases e : ixN ds.length i with
  | none => rw [e] at h; cases h
  | some j => rw [e] at h; exact r.get h
theorem ix_lstD {x : D} {ds : List D} {i : Int} {d : D} (hr : RdL O x ds) (h : atI ds i = some d) (q : Q d O) : IxD X B x (.int i) O Q :=
  IxD.of ix_list fun I H vx vy a _ r1 r2 => by
    obtain ⟨p, vs, rfl, h1, h2⟩ := hr.seq a r1
    cases r2
    obtain ⟨v, h3, h4⟩ := h2.atI h
    exact ⟨p, vs, i, v, rfl, rfl, h1, h3, .of a (Same.refl _) h4 q⟩
theorem ix_tupD {ds : List D} {i : Int} {d : D} (h : atI ds i = some d) (q : Q d O) : IxD X B (.tup ds) (.int i) O Q :=
  IxD.of ix_tup fun I H vx vy a _ r1 r2 => by
    obtain ⟨p, vs, rfl, h1, h2⟩ := tup_seq a r1
    cases r2
    obtain ⟨v, h3, h4⟩ := h2.atI h
    exact ⟨p, vs, i, v, rfl, rfl, h1, h3, .of a (Same.refl _) h4 q⟩
/-- list + list: a new one -/
theorem bi_catL {x y : D} {ds es : List D} (h1 : OwL O x ds) (h2 : OwL O y es) (hl : ds.length + es.length ≤ sizeLine) (q : ∀ p, O p = none → Q (.ptr p) (updO O p (.lst (ds ++ es)))) : BinD X B (binaryOp .Add) x y O Q :=
  BinD.of op_cat fun I H vx vy a _ r1 r2 => by
    obtain ⟨p, vs, rfl, e1, q1⟩ := h1.at a r1
    obtain ⟨p', us, rfl, e2, q2⟩ := h2.at a r2
    refine ⟨p, p', vs, us, rfl, rfl, e1, e2, by rw [← q1.len, ← q2.len]; exact hl, fun l hl => ?_⟩
    obtain ⟨n, a'⟩ := a.newO (c := .lst (ds ++ es)) hl ⟨_, rfl, q1.append q2⟩
    exact .of a' (Same.refl _) .ptr (q l n)
/-- tuple + tuple -/
theorem bi_catT {ds es : List D} (hn : ds ≠ []) (hm : es ≠ []) (hl : ds.length + es.length ≤ sizeLine) (q : Q (.tup (ds ++ es)) O) : BinD X B (binaryOp .Add) (.tup ds) (.tup es) O Q :=
  BinD.of op_catT fun I H vx vy a _ r1 r2 => by
    obtain ⟨p, vs, rfl, e1, q1⟩ := tup_seq a r1
    obtain ⟨p', us, rfl, e2, q2⟩ := tup_seq a r2
    have n1 : vs ≠ [] := fun z => hn (List.eq_nil_of_length_eq_zero (by rw [q1.len, z]; rfl))
    have n2 : us ≠ [] := fun z => hm (List.eq_nil_of_length_eq_zero (by rw [q2.len, z]; rfl))
    refine ⟨p, p', vs, us, rfl, rfl, e1, e2, n1, by rw [← q1.len, ← q2.len]; exact hl, fun z => absurd z n2, fun _ l hl => ?_⟩
    obtain ⟨s, a'⟩ := a.newI (o := .tup (vs ++ us)) hl
    exact .of a' s (.tup (SqT.of upd_same) ((q1.mono s).append (q2.mono s))) q
end
end DL

namespace DL
open PySem PySem.Spec PyProof.Rows L2
section
variable {X : Cx} {B : Hp} {e a b c : Expr} {es : List Expr} {δ : EN} {O : OH} {Q R : D → OH → Prop} {QB : Bool → OH → Prop} {QA : List D → OH → Prop} {pos : Pos} {K : PySem.W.Frag} {I J : Hp}

/-! ### argument lists, displays -/
theorem da_nil (q : QA [] O) : DA X B [] δ O QA := DA.of pa_nil fun _ _ _ _ b _ => ⟨_, O, [], Same.refl _, b, .nil, q⟩
theorem da_cons (h : DE X B e δ O fun d O1 => DA X B es δ O1 fun ds O2 => QA (d :: ds) O2) (hs : starEach (e :: es) X.env = (false, eval e X.env) :: starEach es X.env := by rfl) : DA X B (e :: es) δ O QA :=
  DA.of (pa_cons selfE selfA hs) fun σ H I e1 h1 b1 => tE_mono (h σ H I e1 h1 b1) fun x H1 ⟨I1, O1, d1, s1, h2, r1, q1⟩ =>
    tA_mono (q1 σ H1 I1 (e1.mono s1) h2 (b1.trans s1)) fun ys H2 ⟨I2, O2, ds, s2, h3, r2, q2⟩ => ⟨I2, O2, d1 :: ds, s1.trans s2, h3, .cons (r1.mono s2) r2, q2⟩
theorem de_tup {x1} (h : DA X B es δ O fun ds O1 => ds.length ≤ sizeLine ∧ Q (.tup ds) O1) : DE X B (.Tuple es x1 pos) δ O Q :=
  DE.of (pe_tup selfA) fun σ H I e1 h1 b1 => tA_mono (h σ H I e1 h1 b1) fun xs H1 ⟨I1, O1, ds, s1, h2, r, hl, q⟩ => by
    refine ⟨by rw [← r.len]; exact hl, fun p hp => ?_⟩
    obtain ⟨s2, h3⟩ := h2.newI (o := .tup xs) hp
    exact .of h3 (s1.trans s2) (.tup (SqT.of upd_same) (r.mono s2)) q
theorem de_list (h : DA X B es δ O fun ds O1 => ds.length ≤ sizeLine ∧ ∀ p, O1 p = none → Q (.ptr p) (updO O1 p (.lst ds))) : DE X B (.List es pos) δ O Q :=
  DE.of (pe_lst selfA) fun σ H I e1 h1 b1 => tA_mono (h σ H I e1 h1 b1) fun xs H1 ⟨I1, O1, ds, s1, h2, r, hl, q⟩ => by
    refine ⟨by rw [← r.len]; exact hl, fun p hp => ?_⟩
    obtain ⟨n, h3⟩ := h2.newO (o := .lst xs) (c := .lst ds) hp ⟨xs, rfl, r⟩
    exact .of h3 s1 .ptr (q p n)

/-! ### tests -/
theorem dt_val (h : DE X B e δ O fun d O1 => ∃ k, d = .bl k ∧ QB k O1) (he : ∀ whole, isTrue e X.env whole = (do let v ← whole; standAt e.pos; holding [v] (truthy v)) := by intro _; rfl) : DT X B e δ O QB :=
  DT.of (pt_val selfE he) fun σ H I e1 h1 b1 => tE_mono (h σ H I e1 h1 b1) fun x H1 ⟨I1, O1, d, s1, h2, r, k, hk, q⟩ => by
    subst hk; cases r
    exact ⟨k, rfl, I1, O1, s1, h2, q⟩
theorem dt_cmp {op : CmpOp} (hm : behindInMarks op b = false) (h : DE X B a δ O fun x O1 => DE X B b δ O1 fun y O2 => BinD X B (compareOp op) x y O2 fun d O3 => ∃ k, d = .bl k ∧ QB k O3) : DT X B (.Compare a [op] [b] pos) δ O QB :=
  DT.of (pt_cmpR rF_op selfE selfE hm) fun σ H I e1 h1 b1 => tE_mono (h σ H I e1 h1 b1) fun x H1 ⟨I1, O1, d1, s1, h2, r1, q1⟩ =>
    tE_mono (q1 σ H1 I1 (e1.mono s1) h2 (b1.trans s1)) fun y H2 ⟨I2, O2, d2, s2, h3, r2, q2⟩ => by
      intro pins s σ' v u J rx ry
      refine thn (q2 I2 H2 x y h3 ((b1.trans s1).trans s2) (r1.mono s2) r2 pins s σ' v u J rx ry) fun w s' ⟨z, H', J', rz, p⟩ => ⟨z, H', J', rz, ?_⟩
      obtain ⟨I3, O3, d, s3, h4, r, k, hk, q⟩ := p
      subst hk; cases r
      exact ⟨k, rfl, I3, O3, (s1.trans s2).trans s3, h4, q⟩
/-- a op b op' c -/
theorem dt_chain {op op' : CmpOp} (h : DE X B a δ O fun x O1 => DE X B b δ O1 fun y O2 => BinD X B (compareOp op) x y O2 fun d O3 => ∃ k, d = .bl k ∧
      (k = true → DE X B c δ O3 fun z O4 => BinD X B (compareOp op') y z O4 fun d O5 => ∃ k, d = .bl k ∧ QB k O5) ∧ (k = false → QB false O3))
    (hm : lastMarks [op, op'] [b, c] = false := by with_unfolding_all rfl) : DT X B (.Compare a [op, op'] [b, c] pos) δ O QB :=
  DT.of (pt_chain rF_op rF_op selfE selfE selfE hm) fun σ H I e1 h1 b1 => tE_mono (h σ H I e1 h1 b1) fun x H1 ⟨I1, O1, d1, s1, h2, r1, q1⟩ =>
    tE_mono (q1 σ H1 I1 (e1.mono s1) h2 (b1.trans s1)) fun y H2 ⟨I2, O2, d2, s2, h3, r2, q2⟩ => by
      intro pins s σ' v u J rx ry
      refine thn (q2 I2 H2 x y h3 ((b1.trans s1).trans s2) (r1.mono s2) r2 pins s σ' v u J rx ry) fun w s' ⟨z, H', J', rz, p⟩ => ⟨z, H', J', rz, ?_⟩
      obtain ⟨I3, O3, d, s3, h4, r, k, hk, qt, qf⟩ := p
      subst hk; cases r
      refine ⟨k, rfl, ?_⟩
      cases k with
      | false => exact iteF ⟨false, rfl, I3, O3, (s1.trans s2).trans s3, h4, qf rfl⟩
      | true =>
        refine iteT (tE_mono (qt rfl σ H' I3 (((e1.mono s1).mono s2).mono s3) h4 (((b1.trans s1).trans s2).trans s3)) fun z H4 ⟨I4, O4, d4, s4, h5, r4, q4⟩ => ?_)
        intro pins s σ' v u J rx ry
        refine thn (q4 I4 H4 y z h5 ((((b1.trans s1).trans s2).trans s3).trans s4) ((r2.mono s3).mono s4) r4 pins s σ' v u J rx ry) fun w s' ⟨z, H', J', rz, p⟩ => ⟨z, H', J', rz, ?_⟩
        obtain ⟨I5, O5, d, s5, h6, r, k, hk, q⟩ := p
        subst hk; cases r
        exact ⟨k, rfl, I5, O5, (((s1.trans s2).trans s3).trans s4).trans s5, h6, q⟩
theorem dt_not (h : DT X B a δ O fun k O1 => QB (!k) O1) : DT X B (.UnaryOp .Not a pos) δ O QB :=
  DT.of (pt_not selfT) fun σ H I e1 h1 b1 => tT_mono (h σ H I e1 h1 b1) fun k H1 ⟨I1, O1, s1, h2, q⟩ => ⟨I1, O1, s1, h2, q⟩
theorem dt_w (h : DW X B e δ O QB) : DT X B e δ O QB := DT.of selfW.pt fun σ H I e1 h1 b1 => h σ H I e1 h1 b1
theorem dw_and1 (h : DT X B a δ O QB) : DW X B (.BoolOp .And [a] pos) δ O QB := DW.of (pw_and1 selfT) fun σ H I e1 h1 b1 => h σ H I e1 h1 b1
theorem dw_or1 (h : DT X B a δ O QB) : DW X B (.BoolOp .Or [a] pos) δ O QB := DW.of (pw_or1 selfT) fun σ H I e1 h1 b1 => h σ H I e1 h1 b1
theorem dw_and {rest : List Expr} (h : DT X B a δ O fun k O1 => (k = true → DW X B (.BoolOp .And (b :: rest) pos) δ O1 QB) ∧ (k = false → QB false O1)) : DW X B (.BoolOp .And (a :: b :: rest) pos) δ O QB :=
  DW.of (pw_and selfT selfW) fun σ H I e1 h1 b1 => tT_mono (h σ H I e1 h1 b1) fun k H1 ⟨I1, O1, s1, h2, qt, qf⟩ => by
    cases k with
    | true => exact iteT (tW_mono (qt rfl σ H1 I1 (e1.mono s1) h2 (b1.trans s1)) fun _ _ p => p.mono s1 fun _ _ q => q)
    | false => exact iteF ⟨I1, O1, s1, h2, qf rfl⟩
theorem dw_or {rest : List Expr} (h : DT X B a δ O fun k O1 => (k = true → QB true O1) ∧ (k = false → DW X B (.BoolOp .Or (b :: rest) pos) δ O1 QB)) : DW X B (.BoolOp .Or (a :: b :: rest) pos) δ O QB :=
  DW.of (pw_or selfT selfW) fun σ H I e1 h1 b1 => tT_mono (h σ H I e1 h1 b1) fun k H1 ⟨I1, O1, s1, h2, qt, qf⟩ => by
    cases k with
    | true => exact iteT ⟨I1, O1, s1, h2, qt rfl⟩
    | false => exact iteF (tW_mono (qf rfl σ H1 I1 (e1.mono s1) h2 (b1.trans s1)) fun _ _ p => p.mono s1 fun _ _ q => q)
/-! .. as values -/
theorem de_and1 {op} (h : DE X B a δ O Q) : DE X B (.BoolOp op [a] pos) δ O Q := DE.of (pe_one selfE) fun σ H I e1 h1 b1 => h σ H I e1 h1 b1
theorem de_and {rest : List Expr} (h : DE X B a δ O fun d O1 => ∃ k, d = .bl k ∧ (k = true → DE X B (.BoolOp .And (b :: rest) pos) δ O1 Q) ∧ (k = false → Q (.bl false) O1)) : DE X B (.BoolOp .And (a :: b :: rest) pos) δ O Q :=
  DE.of (pe_and selfE selfE) fun σ H I e1 h1 b1 => tE_mono (h σ H I e1 h1 b1) fun x H1 ⟨I1, O1, d, s1, h2, r, k, hk, qt, qf⟩ => by
    subst hk; cases r
    refine ⟨k, rfl, ?_⟩
    cases k with
    | true => exact iteT (tE_mono (qt rfl σ H1 I1 (e1.mono s1) h2 (b1.trans s1)) fun _ _ p => p.mono s1 fun _ _ q => q)
    | false => exact iteF (.of h2 s1 .bl (qf rfl))
theorem de_or {rest : List Expr} (h : DE X B a δ O fun d O1 => ∃ k, d = .bl k ∧ (k = true → Q (.bl true) O1) ∧ (k = false → DE X B (.BoolOp .Or (b :: rest) pos) δ O1 Q)) : DE X B (.BoolOp .Or (a :: b :: rest) pos) δ O Q :=
  DE.of (pe_or selfE selfE) fun σ H I e1 h1 b1 => tE_mono (h σ H I e1 h1 b1) fun x H1 ⟨I1, O1, d, s1, h2, r, k, hk, qt, qf⟩ => by
    subst hk; cases r
    refine ⟨k, rfl, ?_⟩
    cases k with
    | true => exact iteT (.of h2 s1 .bl (qt rfl))
    | false => exact iteF (tE_mono (qf rfl σ H1 I1 (e1.mono s1) h2 (b1.trans s1)) fun _ _ p => p.mono s1 fun _ _ q => q)
theorem de_not (h : DE X B a δ O fun d O1 => ∃ k, d = .bl k ∧ Q (.bl (!k)) O1) : DE X B (.UnaryOp .Not a pos) δ O Q :=
  DE.of (pe_not selfE) fun σ H I e1 h1 b1 => tE_mono (h σ H I e1 h1 b1) fun x H1 ⟨I1, O1, d, s1, h2, r, k, hk, q⟩ => by
    subst hk; cases r
    exact ⟨k, rfl, .of h2 s1 .bl q⟩
theorem de_neg {i : Int} (h : DE X B a δ O fun d O1 => ∃ i, d = .int i ∧ Q (.int (-i)) O1) : DE X B (.UnaryOp .USub a pos) δ O Q :=
  DE.of (pe_un un_neg selfE) fun σ H I e1 h1 b1 => tE_mono (h σ H I e1 h1 b1) fun x H1 ⟨I1, O1, d, s1, h2, r, i, hk, q⟩ => by
    subst hk; cases r
    exact ⟨i, rfl, .of h2 s1 .int q⟩
theorem de_if (h : DT X B c δ O fun k O1 => (k = true → DE X B a δ O1 Q) ∧ (k = false → DE X B b δ O1 Q)) : DE X B (.IfExp c a b pos) δ O Q :=
  DE.of (pe_ifExp selfT selfE selfE) fun σ H I e1 h1 b1 => tT_mono (h σ H I e1 h1 b1) fun k H1 ⟨I1, O1, s1, h2, qt, qf⟩ => by
    cases k with
    | true => exact iteT (tE_mono (qt rfl σ H1 I1 (e1.mono s1) h2 (b1.trans s1)) fun _ _ p => p.mono s1 fun _ _ q => q)
    | false => exact iteF (tE_mono (qf rfl σ H1 I1 (e1.mono s1) h2 (b1.trans s1)) fun _ _ p => p.mono s1 fun _ _ q => q)
theorem de_chain {op op' : CmpOp} (h : DE X B a δ O fun x O1 => DE X B b δ O1 fun y O2 => BinD X B (compareOp op) x y O2 fun d O3 => ∃ k, d = .bl k ∧
      (k = true → DE X B c δ O3 fun z O4 => BinD X B (compareOp op') y z O4 Q) ∧ (k = false → Q (.bl false) O3))
    (hm : lastMarks [op, op'] [b, c] = false := by with_unfolding_all rfl) : DE X B (.Compare a [op, op'] [b, c] pos) δ O Q :=
  DE.of (pe_chain rF_op rF_op selfE selfE selfE hm) fun σ H I e1 h1 b1 => tE_mono (h σ H I e1 h1 b1) fun x H1 ⟨I1, O1, d1, s1, h2, r1, q1⟩ =>
    tE_mono (q1 σ H1 I1 (e1.mono s1) h2 (b1.trans s1)) fun y H2 ⟨I2, O2, d2, s2, h3, r2, q2⟩ => by
      intro pins s σ' v u J rx ry
      refine thn (q2 I2 H2 x y h3 ((b1.trans s1).trans s2) (r1.mono s2) r2 pins s σ' v u J rx ry) fun w s' ⟨z, H', J', rz, p⟩ => ⟨z, H', J', rz, ?_⟩
      obtain ⟨I3, O3, d, s3, h4, r, k, hk, qt, qf⟩ := p
      subst hk; cases r
      refine ⟨k, rfl, ?_⟩
      cases k with
      | false => exact iteF (.of h4 ((s1.trans s2).trans s3) .bl (qf rfl))
      | true =>
        refine iteT (tE_mono (qt rfl σ H' I3 (((e1.mono s1).mono s2).mono s3) h4 (((b1.trans s1).trans s2).trans s3)) fun z H4 ⟨I4, O4, d4, s4, h5, r4, q4⟩ => ?_)
        intro pins s σ' v u J rx ry
        exact thn (q4 I4 H4 y z h5 ((((b1.trans s1).trans s2).trans s3).trans s4) ((r2.mono s3).mono s4) r4 pins s σ' v u J rx ry) fun w s' ⟨z, H', J', rz, p⟩ => ⟨z, H', J', rz, p.mono (((s1.trans s2).trans s3).trans s4) fun _ _ q => q⟩

/-! ### calls of builtins -/
def rC (X : Cx) (f : Value) : List V → Hp → VK → Prop := fun xs H Q => ∀ pins s σ us, Inv X pins σ H s → Vals xs us → wpAny (model X.prog X.w) X.A (call f us) (EP X pins σ Q) X.xe s
theorem rC_call {f : Value} : CallR X f (rC X f) := fun pins s σ H xs us Q I r h => h pins s σ us I r
def CallD (X : Cx) (B : Hp) (f : Value) (ds : List D) (O : OH) (Q : D → OH → Prop) : Prop := ∀ I H vs, Hd X.K I O H → Same B I → Reps X.K I ds vs → rC X f vs H (Post X.K I Q)
theorem CallD.of {f : Value} {r : List V → Hp → VK → Prop} {ds : List D} (h : CallR X f r) (k : ∀ I H vs, Hd X.K I O H → Same B I → Reps X.K I ds vs → r vs H (Post X.K I Q)) : CallD X B f ds O Q :=
  fun I H vs a b c pins s σ us J r => h pins s σ H vs us _ J r (k I H vs a b c)
theorem rC_mono {f : Value} {vs : List V} {H : Hp} {Q R : VK} (h : rC X f vs H Q) (k : ∀ v H, Q v H → R v H) : rC X f vs H R := fun pins s σ us J r =>
  thn (h pins s σ us J r) fun w s' ⟨z, H', J', rz, p⟩ => ⟨z, H', J', rz, k _ _ p⟩
theorem de_callB {x : Str} {id : String} {p : Pos} (hm : X.mg x = none) (hg : Gl X x) (hv : bootBuiltins x = some (.builtin id)) (h : DA X B (e :: es) δ O fun ds O1 => CallD X B (.builtin id) ds O1 Q)
    (hn : x ≠ "__name__" := by decide) (hdb : (x == ("__debug__" : Str)) = false := by decide)
    (he : starEach (e :: es) X.env = (false, eval e X.env) :: starEach es X.env := by rfl) (hpl : (backTo pos (starEach es X.env)).any (·.1) = false := by rfl) : DE X B (.Call (.Name x p) (e :: es) [] pos) δ O Q :=
  DE.of (pe_callB rC_call hg hm hv selfA hn hdb he hpl) fun σ H I e1 h1 b1 => tA_mono (h σ H I e1 h1 b1) fun vs H1 ⟨I1, O1, ds, s1, h2, r, q⟩ => rC_mono (q I1 H1 vs h2 (b1.trans s1) r) fun _ _ p => p.mono s1 fun _ _ q => q
theorem de_callT {x : Str} {T : String} {p : Pos} (hm : X.mg x = none) (hg : Gl X x) (hv : bootBuiltins x = some (.type T)) (h : DA X B (e :: es) δ O fun ds O1 => CallD X B (.type T) ds O1 Q)
    (hn : x ≠ "__name__" := by decide) (hdb : (x == ("__debug__" : Str)) = false := by decide)
    (he : starEach (e :: es) X.env = (false, eval e X.env) :: starEach es X.env := by rfl) (hpl : (backTo pos (starEach es X.env)).any (·.1) = false := by rfl) : DE X B (.Call (.Name x p) (e :: es) [] pos) δ O Q :=
  DE.of (pe_callTy rC_call hg hm hv selfA hn hdb he hpl) fun σ H I e1 h1 b1 => tA_mono (h σ H I e1 h1 b1) fun vs H1 ⟨I1, O1, ds, s1, h2, r, q⟩ => rC_mono (q I1 H1 vs h2 (b1.trans s1) r) fun _ _ p => p.mono s1 fun _ _ q => q
theorem reps1 {d : D} {vs : List V} (r : Reps K I [d] vs) : ∃ v, vs = [v] ∧ Rep K I d v := by
  cases r with | cons r1 r2 => cases r2; exact ⟨_, rfl, r1⟩
theorem reps2 {d d' : D} {vs : List V} (r : Reps K I [d, d'] vs) : ∃ v u, vs = [v, u] ∧ Rep K I d v ∧ Rep K I d' u := by
  cases r with | cons r1 r2 => obtain ⟨u, rfl, r3⟩ := reps1 r2; exact ⟨_, u, rfl, r1, r3⟩
theorem ca_len {x : D} {ds : List D} (h : RdL O x ds) (q : Q (.int (ds.length : Int)) O) : CallD X B (.builtin "len") [x] O Q :=
  CallD.of call_len_seq fun I H vs a _ r => by
    obtain ⟨v, rfl, r1⟩ := reps1 r
    obtain ⟨p, vs, rfl, h1, h2⟩ := h.seq a r1
    refine ⟨p, vs, rfl, .inl h1, ?_⟩
    rw [← h2.len]
    exact .of a (Same.refl _) .int q
theorem ca_lenT {ds : List D} (q : Q (.int (ds.length : Int)) O) : CallD X B (.builtin "len") [.tup ds] O Q :=
  CallD.of call_len_seq fun I H vs a _ r => by
    obtain ⟨v, rfl, r1⟩ := reps1 r
    obtain ⟨p, vs, rfl, h1, h2⟩ := tup_seq a r1
    refine ⟨p, vs, rfl, .inr h1, ?_⟩
    rw [← h2.len]
    exact .of a (Same.refl _) .int q
theorem ca_lenS {z : Str} (hl : z.length ≤ sizeLine) (q : Q (.int (z.length : Int)) O) : CallD X B (.builtin "len") [.str z] O Q :=
  CallD.of call_len_str fun I H vs a _ r => by
    obtain ⟨v, rfl, r1⟩ := reps1 r
    cases r1
    exact ⟨z, rfl, hl, .of a (Same.refl _) .int q⟩
theorem ca_abs {i : Int} (q : Q (.int (if i < 0 then -i else i)) O) : CallD X B (.builtin "abs") [.int i] O Q :=
  CallD.of call_abs fun I H vs a _ r => by
    obtain ⟨v, rfl, r1⟩ := reps1 r
    cases r1
    exact ⟨i, rfl, .of a (Same.refl _) .int q⟩
theorem ca_max {i j : Int} (hc : X.calm = true) (q : Q (.int (if j > i then j else i)) O) : CallD X B (.builtin "max") [.int i, .int j] O Q :=
  CallD.of (call_max2 hc) fun I H vs a _ r => by
    obtain ⟨v, u, rfl, r1, r2⟩ := reps2 r
    cases r1; cases r2
    exact ⟨i, j, rfl, .of a (Same.refl _) .int q⟩
theorem ca_min {i j : Int} (hc : X.calm = true) (q : Q (.int (if j < i then j else i)) O) : CallD X B (.builtin "min") [.int i, .int j] O Q :=
  CallD.of (call_min2 hc) fun I H vs a _ r => by
    obtain ⟨v, u, rfl, r1, r2⟩ := reps2 r
    cases r1; cases r2
    exact ⟨i, j, rfl, .of a (Same.refl _) .int q⟩
theorem ca_int {i : Int} (q : Q (.int i) O) : CallD X B (.type "int") [.int i] O Q :=
  CallD.of call_int1 fun I H vs a _ r => by
    obtain ⟨v, rfl, r1⟩ := reps1 r
    cases r1
    exact .inl ⟨i, rfl, .of a (Same.refl _) .int q⟩
theorem ca_intB {k : Bool} (q : Q (.int (if k then 1 else 0)) O) : CallD X B (.type "int") [.bl k] O Q :=
  CallD.of call_int1 fun I H vs a _ r => by
    obtain ⟨v, rfl, r1⟩ := reps1 r
    cases r1
    exact .inr ⟨k, rfl, .of a (Same.refl _) .int q⟩
theorem ca_intS {z : Str} {n : Int} (h : PySem.intText? z = some n) (hl : z.length ≤ 640) (q : Q (.int n) O) : CallD X B (.type "int") [.str z] O Q :=
  CallD.of call_int_str fun I H vs a _ r => by
    obtain ⟨v, rfl, r1⟩ := reps1 r
    cases r1
    exact ⟨z, n, rfl, h, hl, .of a (Same.refl _) .int q⟩
theorem ca_strI {i : Int} (h : i.natAbs.log2 < 1920) (q : Q (.str (toString i)) O) : CallD X B (.type "str") [.int i] O Q :=
  CallD.of call_str_int fun I H vs a _ r => by
    obtain ⟨v, rfl, r1⟩ := reps1 r
    cases r1
    exact ⟨i, rfl, h, .of a (Same.refl _) .str q⟩
theorem ca_list {x : D} {ds : List D} (h : RdL O x ds) (q : ∀ p, O p = none → Q (.ptr p) (updO O p (.lst ds))) : CallD X B (.type "list") [x] O Q :=
  CallD.of call_list_of fun I H vs a _ r => by
    obtain ⟨v, rfl, r1⟩ := reps1 r
    obtain ⟨p, vs, rfl, h1, h2⟩ := h.seq a r1
    refine ⟨p, vs, rfl, .inl h1, fun l hl => ?_⟩
    obtain ⟨n, h3⟩ := a.newO (o := .lst vs) (c := .lst ds) hl ⟨vs, rfl, h2⟩
    exact .of h3 (Same.refl _) .ptr (q l n)
theorem ca_listT {ds : List D} (q : ∀ p, O p = none → Q (.ptr p) (updO O p (.lst ds))) : CallD X B (.type "list") [.tup ds] O Q :=
  CallD.of call_list_of fun I H vs a _ r => by
    obtain ⟨v, rfl, r1⟩ := reps1 r
    obtain ⟨p, vs, rfl, h1, h2⟩ := tup_seq a r1
    refine ⟨p, vs, rfl, .inr h1, fun l hl => ?_⟩
    obtain ⟨n, h3⟩ := a.newO (o := .lst vs) (c := .lst ds) hl ⟨vs, rfl, h2⟩
    exact .of h3 (Same.refl _) .ptr (q l n)
theorem ca_tuple {x : D} {ds : List D} (h : RdL O x ds) (q : Q (.tup ds) O) : CallD X B (.type "tuple") [x] O Q :=
  CallD.of call_tuple_of fun I H vs a _ r => by
    obtain ⟨v, rfl, r1⟩ := reps1 r
    obtain ⟨p, vs, rfl, h1, h2⟩ := h.seq a r1
    refine ⟨p, vs, rfl, .inl ⟨h1, fun l hl => ?_⟩⟩
    obtain ⟨s, h3⟩ := a.newI (o := .tup vs) hl
    exact .of h3 s (.tup (SqT.of upd_same) (h2.mono s)) q
/-- ints of a list -/
theorem reps_int_inv {ns : List Int} {vs : List V} (r : Reps K I (ns.map D.int) vs) : vs = ns.map V.int := by
  induction ns generalizing vs with
  | nil => cases r; rfl
  | cons n ns ih => cases r with | cons r1 r2 => cases r1; rw [ih r2]; rfl
theorem reps_str_inv {ns : List Str} {vs : List V} (r : Reps K I (ns.map D.str) vs) : vs = ns.map V.str := by
  induction ns generalizing vs with
  | nil => cases r; rfl
  | cons n ns ih => cases r with | cons r1 r2 => cases r1; rw [ih r2]; rfl

/-! ### builtins' methods -/
def rM (X : Cx) (id : String) : V → List V → Hp → VK → Prop := fun x xs H Q => ∀ pins s σ v us, Inv X pins σ H s → RelV x v → Vals xs us → wpAny (model X.prog X.w) X.A (call (.builtin id) (v :: us)) (EP X pins σ Q) X.xe s
theorem rM_mt {id : String} : MtR X id (rM X id) := fun pins s σ H x xs v us Q I rx r h => h pins s σ v us I rx r
theorem rM_mono {id : String} {x : V} {vs : List V} {H : Hp} {Q R : VK} (h : rM X id x vs H Q) (k : ∀ v H, Q v H → R v H) : rM X id x vs H R := fun pins s σ v us J rx r =>
  thn (h pins s σ v us J rx r) fun w s' ⟨z, H', J', rz, p⟩ => ⟨z, H', J', rz, k _ _ p⟩
def MethD (X : Cx) (B : Hp) (id : String) (x : D) (ds : List D) (O : OH) (Q : D → OH → Prop) : Prop := ∀ I H v vs, Hd X.K I O H → Same B I → Rep X.K I x v → Reps X.K I ds vs → rM X id v vs H (Post X.K I Q)
theorem MethD.of {id : String} {r : V → List V → Hp → VK → Prop} {x : D} {ds : List D} (h : MtR X id r) (k : ∀ I H v vs, Hd X.K I O H → Same B I → Rep X.K I x v → Reps X.K I ds vs → r v vs H (Post X.K I Q)) : MethD X B id x ds O Q :=
  fun I H v vs a b c d pins s σ u us J rx r => h pins s σ H v vs u us _ J rx r (k I H v vs a b c d)
/-- what the receiver is -/
def TyD (T : String) (x : D) (O : OH) : Prop := ∀ K I H v, Hd K I O H → Rep K I x v → tyV K T v H
theorem de_meth {o : Expr} {name : Str} {apos : Pos} {T id : String} (pa : PlainAttrs T) (slot : PySem.Slot T name id) (hty : typeOf (.builtin id) = pure (.type "method_descriptor"))
    (h : DE X B o δ O fun x O1 => TyD T x O1 ∧ DA X B (e :: es) δ O1 fun ds O2 => MethD X B id x ds O2 Q)
    (hbase : attributeBase o name X.env (eval o X.env) = eval o X.env := by rfl)
    (hfew : ((backTo pos (starEach (e :: es) X.env)).all (fun x => !x.1) && (backToKw pos (keywordEach [] X.env)).all (fun x => x.1.isSome)
      && decide ((e :: es).length + ([] : List Keyword).length + (if ([] : List Keyword).isEmpty then 0 else 1) < 30)) = true := by rfl)
    (hline : (apos.endLine == pos.line) = true := by rfl) (hs : starEach (e :: es) X.env = (false, eval e X.env) :: starEach es X.env := by rfl) (hplain : (backTo pos (starEach es X.env)).any (·.1) = false := by rfl) :
    DE X B (.Call (.Attribute o name apos) (e :: es) [] pos) δ O Q :=
  DE.of (pe_bm pa slot hty rM_mt selfE selfA hbase hfew hline hs hplain) fun σ H I e1 h1 b1 => tE_mono (h σ H I e1 h1 b1) fun x H1 ⟨I1, O1, d, s1, h2, r, ty, q⟩ =>
    ⟨ty _ _ _ _ h2 r, tA_mono (q σ H1 I1 (e1.mono s1) h2 (b1.trans s1)) fun vs H2 ⟨I2, O2, ds, s2, h3, r2, q2⟩ => rM_mono (q2 I2 H2 x vs h3 ((b1.trans s1).trans s2) (r.mono s2) r2) fun _ _ p => p.mono (s1.trans s2) fun _ _ q => q⟩
theorem de_meth0 {o : Expr} {name : Str} {apos : Pos} {T id : String} (pa : PlainAttrs T) (slot : PySem.Slot T name id) (hty : typeOf (.builtin id) = pure (.type "method_descriptor"))
    (h : DE X B o δ O fun x O1 => TyD T x O1 ∧ MethD X B id x [] O1 Q)
    (hbase : attributeBase o name X.env (eval o X.env) = eval o X.env := by rfl) (hline : (apos.endLine == pos.line) = true := by rfl) : DE X B (.Call (.Attribute o name apos) [] [] pos) δ O Q :=
  DE.of (pe_bm0 pa slot hty rM_mt selfE hbase hline) fun σ H I e1 h1 b1 => tE_mono (h σ H I e1 h1 b1) fun x H1 ⟨I1, O1, d, s1, h2, r, ty, q⟩ =>
    ⟨ty _ _ _ _ h2 r, rM_mono (q I1 H1 x [] h2 (b1.trans s1) r .nil) fun _ _ p => p.mono s1 fun _ _ q => q⟩
end
end DL

namespace DL
open PySem PySem.Spec PyProof.Rows L2
/-! ### two ways in which an exception is told: any one; one whose context is None -/
abbrev vErr : List Value := [.type "ValueError", .type "Exception", .type "BaseException", .type "object"]
structure Dis where
  cx : Program → World → CXT
  takes : Cx → WX → Prop
  imp : ∀ {X : Cx} {W V : WX}, takes X W → (∀ c d σ H, V c d σ H → W c d σ H) → takes X V
  pass : ∀ {X : Cx} {W : WX}, takes X W → ∀ σ, PassesAt (cx X.prog X.w) X σ (WE W σ)
  lets : ∀ {X : Cx}, Passes (cx X.prog X.w) X E0
  nil : ∀ {X : Cx}, takes X fun _ _ _ _ => False
  entry : ∀ {X : Cx} {E : XK} {F : Value → Shared → Prop}, X.stack = X.env :: X.outer → X.env.frame = some X.env.locals → X.ex = [] →
    (X.xe = fun e t => wpAny (model X.prog X.w) X.A (leaving X.env e) (fun _ t' => cx X.prog X.w X.outer X.H_0 X.s_0 E e t') F t) → takes X fun c d _ H => E c d H
  raise : ∀ {X : Cx} {W : WX} {C : Addr} {x m : Str} {j : Nat} {p p2 pos pos2 : Pos}, X.calm = true → takes X W → PySem.W.excIn X.K C vErr "ValueError.__new__" = true → X.mg x = some (.ref C) → PySem.W.keepIn X.K (.ref C) = true →
    Raises X (.ref C) → Gl X x → (x == ("__debug__" : Str)) = false → PS X (.Raise (some (.Call (.Name x p) [.Constant (.str m) j p2] [] pos)) none pos2) fun _ σ H => W (.ref C) none σ H
def M0 : Dis where
  cx := L2.CX
  takes := L2.Takes
  imp := fun t h => t.imp h
  pass := fun t σ => passAt t σ
  lets := passL
  nil := takes0
  entry := fun a b c d => takes_of a b c d
  raise := fun a tk q g k r hg hd => L2.ps_raise a tk (L2.pmk_own PySem.F.excBase_ValueError q g k r hg hd)
def MN : Dis where
  cx := L2N.CX
  takes := L2N.Takes
  imp := fun t h => t.imp h
  pass := fun t σ => L2N.passAt t σ
  lets := fun {X} _ _ _ _ _ _ _ h => by
    obtain ⟨_, _, _, _, _, _, _, _, _, _, _, _, z⟩ := h
    exact z.elim
  nil := fun {X} _ _ x => by
    obtain ⟨_, _, _, _, _, _, _, _, _, _, _, _, _, _, _, _, z⟩ := x
    exact z.elim
  entry := fun a b c d => L2N.takes_of a b c d
  raise := fun a tk q g k r hg hd => L2N.ps_raise a tk (L2N.pmk_own PySem.F.excBase_ValueError q g k r hg hd)
section
variable {M : Dis}
variable {X : Cx} {B : Hp} {e a b c : Expr} {es : List Expr} {δ : EN} {O : OH} {Q R : D → OH → Prop} {QB : Bool → OH → Prop} {QA : List D → OH → Prop} {pos : Pos} {K : PySem.W.Frag} {I J : Hp}
/-! ### what a receiver is -/
theorem ty_cell {l : Addr} {ds : List D} (h : O l = some (.lst ds)) : TyD "list" (.ptr l) O := fun K I H v a r => by
  cases r
  obtain ⟨_, vs, h1, _⟩ := a.cel _ _ h
  exact .inl ⟨rfl, vs, SqL.of h1⟩
theorem ty_lst {ds : List D} : TyD "list" (.lst ds) O := fun K I H v a r => by
  cases r with | lst h1 _ => exact .inl ⟨rfl, _, SqL.of (a.sub _ _ h1)⟩
theorem ty_lsk {ds : List D} : TyD "list" (.lsk ds) O := fun K I H v a r => by
  cases r with | lsk h1 _ => exact .inl ⟨rfl, _, a.sub.seq h1⟩
theorem ty_str {x : Str} : TyD "str" (.str x) O := fun K I H v a r => by cases r; exact rfl

theorem Hd.wl {H : Hp} {a : Addr} {ds es : List D} {us : List V} (h : Hd K I O H) (ha : O a = some (.lst ds)) (r : Reps K I es us) : Hd K I (updO O a (.lst es)) (upd H a (.lst us)) := h.write (c := .lst es) ha ⟨us, rfl, r⟩
/-! ### methods of lists -/
theorem me_append {l : Addr} {ds : List D} {d : D} (h : O l = some (.lst ds)) (hz : ds.length < sizeLine) (q : Q .non (updO O l (.lst (ds ++ [d])))) : MethD X B "list.append" (.ptr l) [d] O Q :=
  MethD.of mt_append fun I H v vs a _ r r' => by
    cases r
    obtain ⟨_, us, h1, h2⟩ := a.cel _ _ h
    obtain ⟨u, rfl, r2⟩ := reps1 r'
    exact ⟨l, us, u, rfl, rfl, h1, by rw [← h2.len]; exact hz, .of (a.wl h (h2.append (.cons r2 .nil))) (Same.refl _) .non q⟩
theorem me_extend {l : Addr} {ds es : List D} {x : D} (h : O l = some (.lst ds)) (hx : OwL O x es) (hz : ds.length + es.length ≤ sizeLine) (q : Q .non (updO O l (.lst (ds ++ es)))) : MethD X B "list.extend" (.ptr l) [x] O Q :=
  MethD.of mt_extend fun I H v vs a _ r r' => by
    cases r
    obtain ⟨_, us, h1, h2⟩ := a.cel _ _ h
    obtain ⟨u, rfl, r2⟩ := reps1 r'
    obtain ⟨p, ws, rfl, h3, h4⟩ := hx.at a r2
    exact ⟨l, p, us, ws, rfl, rfl, h1, h3, by rw [← h2.len, ← h4.len]; exact hz, .of (a.wl h (h2.append h4)) (Same.refl _) .non q⟩
theorem Reps.dropLast {ds : List D} {vs : List V} (r : Reps K I ds vs) : Reps K I ds.dropLast vs.dropLast := by
  rw [List.dropLast_eq_take, List.dropLast_eq_take, ← r.len]
  exact r.take _
theorem me_pop {l : Addr} {ds : List D} {d : D} (h : O l = some (.lst ds)) (hd : ds[ds.length - 1]? = some d) (q : Q d (updO O l (.lst ds.dropLast))) : MethD X B "list.pop" (.ptr l) [] O Q :=
  MethD.of mt_pop fun I H v vs a _ r r' => by
    cases r
    obtain ⟨_, us, h1, h2⟩ := a.cel _ _ h
    cases r'
    obtain ⟨u, e1, r2⟩ := h2.get hd
    exact ⟨l, us, u, rfl, rfl, h1, by rw [← h2.len]; exact e1, .of (a.wl h (h2.dropLast)) (Same.refl _) r2 q⟩
theorem me_reverse {l : Addr} {ds : List D} (h : O l = some (.lst ds)) (q : Q .non (updO O l (.lst ds.reverse))) : MethD X B "list.reverse" (.ptr l) [] O Q :=
  MethD.of mt_reverse fun I H v vs a _ r r' => by
    cases r
    obtain ⟨_, us, h1, h2⟩ := a.cel _ _ h
    cases r'
    exact ⟨l, us, rfl, rfl, h1, .of (a.wl h (h2.reverse)) (Same.refl _) .non q⟩
theorem me_clear {l : Addr} {ds : List D} (h : O l = some (.lst ds)) (q : Q .non (updO O l (.lst []))) : MethD X B "list.clear" (.ptr l) [] O Q :=
  MethD.of mt_clear fun I H v vs a _ r r' => by
    cases r
    obtain ⟨_, us, h1, h2⟩ := a.cel _ _ h
    cases r'
    exact ⟨l, us, rfl, rfl, h1, .of (a.wl h (.nil)) (Same.refl _) .non q⟩
/-! ### methods of texts -/
theorem me_join {x : Str} {y : D} {ys : List Str} (h : RdL O y (ys.map D.str)) (hz : (ys.map (·.length)).sum + ys.length * x.length ≤ 16777216) (q : Q (.str (Txt.join x ys)) O) : MethD X B "str.join" (.str x) [y] O Q :=
  MethD.of mt_join fun I H v vs a _ r r' => by
    cases r
    obtain ⟨u, rfl, r2⟩ := reps1 r'
    obtain ⟨p, ws, rfl, h3, h4⟩ := h.seq a r2
    rw [reps_str_inv h4] at h3
    exact ⟨x, p, ys, rfl, rfl, .inl h3, hz, .of a (Same.refl _) .str q⟩
theorem me_split {x y : Str} (hy : (y.length == 0) = false) (hz : x.length + 2 ≤ sizeLine) (q : ∀ p, O p = none → Q (.ptr p) (updO O p (.lst ((Txt.split x y).map D.str)))) : MethD X B "str.split" (.str x) [.str y] O Q :=
  MethD.of mt_split fun I H v vs a _ r r' => by
    cases r
    obtain ⟨u, rfl, r2⟩ := reps1 r'
    cases r2
    refine ⟨x, y, rfl, rfl, hy, hz, fun p hp => ?_⟩
    obtain ⟨n, h3⟩ := a.newO (o := .lst ((Txt.split x y).map V.str)) (c := .lst ((Txt.split x y).map D.str)) hp ⟨_, rfl, reps_strs _⟩
    exact .of h3 (Same.refl _) .ptr (q p n)
theorem me_partition {x y : Str} (hy : (y.length == 0) = false) (hz : x.length ≤ sizeLine) (q : Q (.tup [.str (Txt.partition x y).1, .str (Txt.partition x y).2.1, .str (Txt.partition x y).2.2]) O) : MethD X B "str.partition" (.str x) [.str y] O Q :=
  MethD.of mt_partition fun I H v vs a _ r r' => by
    cases r
    obtain ⟨u, rfl, r2⟩ := reps1 r'
    cases r2
    refine ⟨x, y, rfl, rfl, hy, hz, fun p hp => ?_⟩
    obtain ⟨s, h3⟩ := a.newI (o := .tup [.str (Txt.partition x y).1, .str (Txt.partition x y).2.1, .str (Txt.partition x y).2.2]) hp
    exact .of h3 s (.tup (SqT.of upd_same) (.cons .str (.cons .str (.cons .str .nil)))) q

/-! ### slices -/
def tO (X : Cx) (e : Option Expr) : TO := fun σ H Q => ∀ pins s, Inv X pins σ H s → wpAny (model X.prog X.w) X.A (evalPart e X.env) (fun u s' => ∃ o H', Inv X pins σ H' s' ∧ IsPart u o ∧ Q o H') X.xe s
theorem selfO {e : Option Expr} : PO X e (tO X e) := ⟨fun pins s _ _ _ I h => h pins s I⟩
theorem tO_mono {e : Option Expr} {σ : L2.St} {H : Hp} {Q R : Option Int → Hp → Prop} (h : tO X e σ H Q) (k : ∀ v H, Q v H → R v H) : tO X e σ H R := fun pins s I =>
  thn (h pins s I) fun u s' ⟨v, H', I', r, q⟩ => ⟨v, H', I', r, k v H' q⟩
def DO (X : Cx) (B : Hp) (e : Option Expr) (δ : EN) (O : OH) (Q : Option Int → OH → Prop) : Prop := ∀ σ H I, EOk X.K I σ δ → Hd X.K I O H → Same B I → tO X e σ H (fun o H' => ∃ J O', Same I J ∧ Hd X.K J O' H' ∧ Q o O')
theorem do_none {Q : Option Int → OH → Prop} (q : Q none O) : DO X B none δ O Q := fun σ H I _ h _ pins s J => po_none.run pins s σ H _ J ⟨I, O, Same.refl _, h, q⟩
theorem do_some {Q : Option Int → OH → Prop} (h : DE X B e δ O fun d O1 => ∃ i, d = .int i ∧ Q (some i) O1) : DO X B (some e) δ O Q := fun σ H I e1 h1 b1 pins s J =>
  (po_some selfE).run pins s σ H _ J (tE_mono (h σ H I e1 h1 b1) fun x H1 ⟨I1, O1, d, s1, h2, r, i, hi, q⟩ => by
    subst hi; cases r
    exact ⟨i, rfl, I1, O1, s1, h2, q⟩)
def SlD (X : Cx) (B : Hp) (x : D) (lo hi : Option Int) (O : OH) (Q : D → OH → Prop) : Prop :=
  ∃ r, SlR X r ∧ ∀ I H v, Hd X.K I O H → Same B I → Rep X.K I x v → ∀ W : VK, (∀ v H, Post X.K I Q v H → W v H) → r v lo hi H W
def rSl (X : Cx) : V → Option Int → Option Int → Hp → VK → Prop := fun x lo hi H Q => ∃ r, SlR X r ∧ r x lo hi H Q
theorem rSl_r : SlR X (rSl X) := fun pins s σ H x v vl vu lo hi sl Q I rx hs pl pu ⟨r, hr, h⟩ => hr pins s σ H x v vl vu lo hi sl Q I rx hs pl pu h
theorem de_slice {lo hi : Option Expr} {p2 : Pos} (h : DE X B e δ O fun x O1 => DO X B lo δ O1 fun l O2 => DO X B hi δ O2 fun u O3 => SlD X B x l u O3 Q) : DE X B (.Subscript e (.Slice lo hi none p2) pos) δ O Q :=
  DE.of (pe_slice rSl_r selfE selfO selfO) fun σ H I e1 h1 b1 => tE_mono (h σ H I e1 h1 b1) fun x H1 ⟨I1, O1, d, s1, h2, r, q⟩ =>
    tO_mono (q σ H1 I1 (e1.mono s1) h2 (b1.trans s1)) fun l H2 ⟨I2, O2, s2, h3, q2⟩ => tO_mono (q2 σ H2 I2 ((e1.mono s1).mono s2) h3 ((b1.trans s1).trans s2)) fun u H3 ⟨I3, O3, s3, h4, r3, hr3, q3⟩ =>
      ⟨r3, hr3, q3 I3 H3 x h4 (((b1.trans s1).trans s2).trans s3) ((r.mono s2).mono s3) _ fun _ _ p => p.mono ((s1.trans s2).trans s3) fun _ _ q => q⟩
def cutD (xs : List D) (lo hi : Option Int) : List D := (xs.drop (HT.sIx xs.length 0 lo)).take (HT.sIx xs.length xs.length hi - HT.sIx xs.length 0 lo)
theorem Reps.cut {ds : List D} {vs : List V} {lo hi : Option Int} (r : Reps K I ds vs) : Reps K I (cutD ds lo hi) (cutV vs lo hi) := by
  unfold cutD cutV
  rw [← r.len]
  exact (r.drop _).take _
theorem sl_lstD {x : D} {ds : List D} {lo hi : Option Int} (h : RdL O x ds) (q : ∀ p, O p = none → Q (.ptr p) (updO O p (.lst (cutD ds lo hi)))) : SlD X B x lo hi O Q :=
  ⟨_, sl_list, fun I H v a _ r W k => by
    obtain ⟨p, vs, rfl, h1, h2⟩ := h.seq a r
    refine ⟨p, vs, rfl, h1, fun l hl => k _ _ ?_⟩
    obtain ⟨n, h3⟩ := a.newO (o := .lst (cutV vs lo hi)) (c := .lst (cutD ds lo hi)) hl ⟨_, rfl, h2.cut⟩
    exact .of h3 (Same.refl _) .ptr (q l n)⟩
theorem sl_tupD {ds : List D} {lo hi : Option Int} (q : Q (.tup (cutD ds lo hi)) O) : SlD X B (.tup ds) lo hi O Q :=
  ⟨_, sl_tupA, fun I H v a _ r W k => by
    obtain ⟨p, vs, rfl, h1, h2⟩ := tup_seq a r
    refine ⟨p, vs, rfl, h1, fun hw => k _ _ ?_, fun _ l hl => k _ _ ?_⟩
    · have e : cutD ds lo hi = ds := by
        unfold cutD
        rw [h2.len, hw.1, hw.2]
        simp [← h2.len]
      rw [e] at q
      exact .of a (Same.refl _) r q
    · obtain ⟨s, h3⟩ := a.newI (o := .tup (cutV vs lo hi)) hl
      exact .of h3 s (.tup (SqT.of upd_same) (h2.mono s).cut) q⟩
theorem sl_strD {x : Str} {lo hi : Option Int} (hz : x.length ≤ sizeLine) (q : Q (.str (cutS x lo hi)) O) : SlD X B (.str x) lo hi O Q :=
  ⟨_, sl_str, fun I H v a _ r W k => by cases r; exact ⟨x, rfl, hz, k _ _ (.of a (Same.refl _) .str q)⟩⟩
/-- tuple + tuple, any -/
theorem bi_catA {ds es : List D} (hl : ds.length + es.length ≤ sizeLine) (q : Q (.tup (ds ++ es)) O) : BinD X B (binaryOp .Add) (.tup ds) (.tup es) O Q :=
  BinD.of op_catA fun I H vx vy a _ r1 r2 => by
    obtain ⟨p, vs, rfl, e1, q1⟩ := tup_seq a r1
    obtain ⟨p', us, rfl, e2, q2⟩ := tup_seq a r2
    have nil : ∀ {ds : List D} {vs : List V}, Reps X.K I ds vs → vs = [] → ds = [] := fun r z => List.eq_nil_of_length_eq_zero (by rw [r.len, z]; rfl)
    refine ⟨p, p', vs, us, rfl, rfl, e1, e2, by rw [← q1.len, ← q2.len]; exact hl, fun z => ?_, fun _ z => ?_, fun _ _ l hl => ?_⟩
    · rw [nil q1 z, List.nil_append] at q
      exact .of a (Same.refl _) r2 q
    · rw [nil q2 z, List.append_nil] at q
      exact .of a (Same.refl _) r1 q
    · obtain ⟨s, a'⟩ := a.newI (o := .tup (vs ++ us)) hl
      exact .of a' s (.tup (SqT.of upd_same) ((q1.mono s).append (q2.mono s))) q

/-! ### instances -/
/-- an instance that may be read -/
inductive RdI (O : OH) : D → Addr → List (Str × D) → Prop
  | obj {C fs} : RdI O (.obj C fs) C fs
  | cell {a C fs} : O a = some (.ins C fs) → RdI O (.ptr a) C fs
theorem RdI.at {H : Hp} {d : D} {C : Addr} {fs : List (Str × D)} {v : V} (h : RdI O d C fs) (a : Hd K I O H) (r : Rep K I d v) : ∃ p dx fv, v = .ref p ∧ H p = some (.ins C dx fv) ∧ RepF K I fs fv := by
  cases h with
  | obj => cases r with | obj h1 h2 => exact ⟨_, _, _, rfl, a.sub _ _ h1, h2⟩
  | cell h =>
    cases r
    obtain ⟨_, dx, fv, h1, h2⟩ := a.cel _ _ h
    exact ⟨_, dx, fv, rfl, h1, h2⟩
/-- e.f -/
theorem de_fld {f : Str} {C : Addr} (c : Cls X.K C) (n : NoAttr X.K C f) (h : DE X B e δ O fun x O1 => ∃ fs d, RdI O1 x C fs ∧ Fld fs f d ∧ Q d O1) (hb : attributeBase e f X.env (eval e X.env) = eval e X.env := by rfl) : DE X B (.Attribute e f pos) δ O Q :=
  DE.of (pe_fld selfE hb) fun σ H I e1 h1 b1 => tE_mono (h σ H I e1 h1 b1) fun x H1 ⟨I1, O1, d0, s1, h2, r, fs, d, hr, hf, q⟩ => by
    obtain ⟨p, dx, fv, rfl, h3, h4⟩ := hr.at h2 r
    obtain ⟨v, h5, h6⟩ := hf.look h4
    exact ⟨p, C, dx, fv, v, rfl, h3, c, n, h5, .of h2 s1 h6 q⟩
/-! ### promises by value -/
abbrev SpD := List D → OH → (D → OH → Prop) → (Addr → OH → Prop) → Prop
def lift (K : PySem.W.Frag) (sp : SpD) : Sp := fun vs H Q E => ∃ I O ds Q0 E0, Hd K I O H ∧ Reps K I ds vs ∧ sp ds O Q0 E0 ∧ (∀ d O' v J H', Q0 d O' → Same I J → Hd K J O' H' → Rep K J d v → Q v H') ∧
  ∀ C O' J H', E0 C O' → Same I J → Hd K J O' H' → E (.ref C) none H'
/-- what a def of the text is known by -/
structure FnD (M : Dis) (P : Program) (w : World) (K : PySem.W.Frag) (mg : Str → Option Value) (base : Heap) (x : Str) (k : Nat) (sp : SpD) : Prop where
  ex : ∃ f fd ps, FnOk P w K mg base (M.cx P w) k f fd ps (lift K sp) ∧ mg x = some (.ref f) ∧ PySem.W.keepIn K (.ref f) = true ∧ Binds K fd ps []
/-- no exception -/
theorem de_call {x : Str} {k n : Nat} {sp : SpD} {p : Pos} (F : FnD M X.prog X.w X.K X.mg X.base x k sp) (hr : Room n X.A) (hk : k ≤ n) (hg : Gl X x) (h : DA X B (e :: es) δ O fun ds O1 => sp ds O1 Q fun _ _ => False)
    (hdb : (x == ("__debug__" : Str)) = false := by decide) (he : starEach (e :: es) X.env = (false, eval e X.env) :: starEach es X.env := by rfl) (hpl : (backTo pos (starEach es X.env)).any (·.1) = false := by rfl) :
    DE X B (.Call (.Name x p) (e :: es) [] pos) δ O Q := by
  obtain ⟨f, fd, ps, F, hm, hkp, hb⟩ := F.ex
  refine DE.of (pe_call (E := E0) F (hr.mono hk) hg hm hkp hb .nil M.lets selfA hdb he hpl) fun σ H I e1 h1 b1 => tA_mono (h σ H I e1 h1 b1) fun vs H1 ⟨I1, O1, ds, s1, h2, r, q⟩ => ?_
  rw [List.append_nil]
  exact ⟨I1, O1, ds, _, _, h2, r, q, fun d O' v J H' q s a r => .of a (s1.trans s) r q, fun _ _ _ _ z => z.elim⟩
/-- what is wished of an exception, by value -/
def wx (K : PySem.W.Frag) (B : Hp) (W : Addr → EN → OH → Prop) : WX := fun cls d σ H => ∃ C I O δ, cls = .ref C ∧ d = none ∧ Same B I ∧ Hd K I O H ∧ EOk K I σ δ ∧ W C δ O
theorem de_callX {x : Str} {k n : Nat} {sp : SpD} {p : Pos} {W : Addr → EN → OH → Prop} (F : FnD M X.prog X.w X.K X.mg X.base x k sp) (tk : M.takes X (wx X.K B W)) (hr : Room n X.A) (hk : k ≤ n) (hg : Gl X x)
    (h : DA X B (e :: es) δ O fun ds O1 => sp ds O1 Q fun C O2 => W C δ O2)
    (hdb : (x == ("__debug__" : Str)) = false := by decide) (he : starEach (e :: es) X.env = (false, eval e X.env) :: starEach es X.env := by rfl) (hpl : (backTo pos (starEach es X.env)).any (·.1) = false := by rfl) :
    DE X B (.Call (.Name x p) (e :: es) [] pos) δ O Q := by
  obtain ⟨f, fd, ps, F, hm, hkp, hb⟩ := F.ex
  refine DE.of (pe_callS (E := WE (wx X.K B W)) F (hr.mono hk) hg hm hkp hb (fun σ => M.pass tk σ) selfA hdb he hpl) fun σ H I e1 h1 b1 => tA_mono (h σ H I e1 h1 b1) fun vs H1 ⟨I1, O1, ds, s1, h2, r, q⟩ => ?_
  exact ⟨I1, O1, ds, _, _, h2, r, q, fun d O' v J H' q s a r => .of a (s1.trans s) r q, fun C O' J H' q s a => ⟨C, J, O', δ, rfl, rfl, (b1.trans s1).trans s, a, e1.mono (s1.trans s), q⟩⟩
/-! ### methods and properties of the text's own classes -/
structure MtD (M : Dis) (P : Program) (w : World) (K : PySem.W.Frag) (mg : Str → Option Value) (base : Heap) (C : Addr) (m : Str) (k : Nat) (sp : SpD) : Prop where
  ex : ∃ f fd ps, FnOk P w K mg base (M.cx P w) k f fd ps (lift K sp) ∧ Meth K C m f ∧ Binds K fd ps []
theorem de_own {C : Addr} {o : Expr} {m : Str} {apos : Pos} {k n : Nat} {sp : SpD} (V : MtD M X.prog X.w X.K X.mg X.base C m k sp) (c : Cls X.K C) (hr : Room n X.A) (hk : k ≤ n)
    (h : DE X B o δ O fun x O1 => ∃ fs, RdI O1 x C fs ∧ NoFld fs m ∧ DA X B (e :: es) δ O1 fun ds O2 => sp (x :: ds) O2 Q fun _ _ => False)
    (hst : starEach (e :: es) X.env = (false, eval e X.env) :: starEach es X.env := by rfl) (hpl : (backTo pos (starEach es X.env)).any (·.1) = false := by rfl) {pl : Sem Bool}
    (ht : eval (.Call (.Attribute o m apos) (e :: es) [] pos) X.env = (do
      let ov ← eval o X.env
      standAt apos.atName
      let (f, first) ← holding [ov] (getMethod ov m pl)
      callWith pos f first (backTo pos (starEach (e :: es) X.env)) (backToKw pos (keywordEach [] X.env))) := by rfl) : DE X B (.Call (.Attribute o m apos) (e :: es) [] pos) δ O Q := by
  obtain ⟨f, fd, ps, F, hm, hb⟩ := V.ex
  refine DE.of (pe_meth (E := E0) (pl := pl) selfE c hm F (hr.mono hk) hb .nil M.lets selfA hst hpl ht) fun σ H I e1 h1 b1 => tE_mono (h σ H I e1 h1 b1) fun x H1 ⟨I1, O1, d, s1, h2, r, fs, hi, hn, q⟩ => ?_
  obtain ⟨p, dx, fv, rfl, h3, h4⟩ := hi.at h2 r
  refine ⟨p, dx, fv, rfl, h3, hn.look h4, tA_mono (q σ H1 I1 (e1.mono s1) h2 (b1.trans s1)) fun vs H2 ⟨I2, O2, ds, s2, h5, r2, q2⟩ => ?_⟩
  rw [List.append_nil]
  exact ⟨I2, O2, d :: ds, _, _, h5, .cons (r.mono s2) r2, q2, fun d O' v J H' q s a r => .of a ((s1.trans s2).trans s) r q, fun _ _ _ _ z => z.elim⟩
theorem de_own0 {C : Addr} {o : Expr} {m : Str} {apos : Pos} {k n : Nat} {sp : SpD} (V : MtD M X.prog X.w X.K X.mg X.base C m k sp) (c : Cls X.K C) (hr : Room n X.A) (hk : k ≤ n)
    (h : DE X B o δ O fun x O1 => ∃ fs, RdI O1 x C fs ∧ NoFld fs m ∧ sp [x] O1 Q fun _ _ => False) {pl : Sem Bool}
    (ht : eval (.Call (.Attribute o m apos) [] [] pos) X.env = (do
      let ov ← eval o X.env
      standAt apos.atName
      let (f, first) ← holding [ov] (getMethod ov m pl)
      callWith pos f first (backTo pos (starEach [] X.env)) (backToKw pos (keywordEach [] X.env))) := by rfl) : DE X B (.Call (.Attribute o m apos) [] [] pos) δ O Q := by
  obtain ⟨f, fd, ps, F, hm, hb⟩ := V.ex
  refine DE.of (pe_meth0 (E := E0) (pl := pl) selfE c hm F (hr.mono hk) hb .nil M.lets ht) fun σ H I e1 h1 b1 => tE_mono (h σ H I e1 h1 b1) fun x H1 ⟨I1, O1, d, s1, h2, r, fs, hi, hn, q⟩ => ?_
  obtain ⟨p, dx, fv, rfl, h3, h4⟩ := hi.at h2 r
  exact ⟨p, dx, fv, rfl, h3, hn.look h4, I1, O1, [d], _, _, h2, .cons r .nil, q, fun d O' v J H' q s a r => .of a (s1.trans s) r q, fun _ _ _ _ z => z.elim⟩
/-- a property -/
structure PrD (M : Dis) (P : Program) (w : World) (K : PySem.W.Frag) (mg : Str → Option Value) (base : Heap) (C : Addr) (m : Str) (k : Nat) (sp : SpD) : Prop where
  ex : ∃ p g fd ps, FnOk P w K mg base (M.cx P w) k g fd ps (lift K sp) ∧ PropOf K C m p g ∧ Binds K fd ps []
theorem de_prop {C : Addr} {o : Expr} {m : Str} {k n : Nat} {sp : SpD} (V : PrD M X.prog X.w X.K X.mg X.base C m k sp) (c : Cls X.K C) (hr : Room n X.A) (hk : k + 1 ≤ n)
    (h : DE X B o δ O fun x O1 => ∃ fs, RdI O1 x C fs ∧ sp [x] O1 Q fun _ _ => False) (hab : attributeBase o m X.env (eval o X.env) = eval o X.env := by rfl) : DE X B (.Attribute o m pos) δ O Q := by
  obtain ⟨p, g, fd, ps, F, hm, hb⟩ := V.ex
  refine DE.of (pe_prop (E := E0) selfE c hm F (hr.mono hk) hb .nil M.lets hab) fun σ H I e1 h1 b1 => tE_mono (h σ H I e1 h1 b1) fun x H1 ⟨I1, O1, d, s1, h2, r, fs, hi, q⟩ => ?_
  obtain ⟨p, dx, fv, rfl, h3, h4⟩ := hi.at h2 r
  exact ⟨p, dx, fv, rfl, h3, I1, O1, [d], _, _, h2, .cons r .nil, q, fun d O' v J H' q s a r => .of a (s1.trans s) r q, fun _ _ _ _ z => z.elim⟩
/-! ### making instances -/
structure MkD (M : Dis) (P : Program) (w : World) (K : PySem.W.Frag) (mg : Str → Option Value) (base : Heap) (x : Str) (C : Addr) (k : Nat) (sp : SpD) : Prop where
  ex : ∃ f fd ps, FnOk P w K mg base (M.cx P w) k f fd ps (lift K sp) ∧ Mk K C f ∧ mg x = some (.ref C) ∧ Binds K fd ps []
/-- what __init__ is asked at a new instance -/
def initAt (sp : SpD) (C : Addr) (ds : List D) (O : OH) (Q : D → OH → Prop) (E : Addr → OH → Prop) : Prop := ∀ x, O x = none → sp (.ptr x :: ds) (updO O x (.ins C [])) (fun d O' => d = .non ∧ Q (.ptr x) O') E
theorem de_make {x : Str} {C : Addr} {k n : Nat} {sp : SpD} {p : Pos} (V : MkD M X.prog X.w X.K X.mg X.base x C k sp) (hr : Room n X.A) (hk : k + 1 ≤ n) (hg : Gl X x)
    (h : DA X B (e :: es) δ O fun ds O1 => initAt sp C ds O1 Q fun _ _ => False)
    (hdb : (x == ("__debug__" : Str)) = false := by decide) (he : starEach (e :: es) X.env = (false, eval e X.env) :: starEach es X.env := by rfl) (hpl : (backTo pos (starEach es X.env)).any (·.1) = false := by rfl) :
    DE X B (.Call (.Name x p) (e :: es) [] pos) δ O Q := by
  obtain ⟨f, fd, ps, F, mk, hm, hb⟩ := V.ex
  refine DE.of (pe_make (E := E0) mk F (hr.mono hk) hg hm hb .nil M.lets selfA hdb he hpl) fun σ H I e1 h1 b1 => tA_mono (h σ H I e1 h1 b1) fun vs H1 ⟨I1, O1, ds, s1, h2, r, q⟩ => ?_
  rw [List.append_nil]
  intro y dx hy hdx hne
  obtain ⟨nd, _⟩ := h2.none_of hdx
  have h3 : Hd X.K I1 O1 (upd H1 dx (.own y)) := by
    refine ⟨fun b u z => ?_, fun b c z => ?_⟩
    · rw [upd_ne fun w => by rw [w, nd] at z; cases z]; exact h2.sub _ _ z
    · have := h2.none_of hdx
      rw [upd_ne fun w => by rw [w, this.2] at z; cases z]; exact h2.cel _ _ z
  obtain ⟨n4, h4⟩ := h3.newO (a := y) (o := .ins C dx []) (c := .ins C []) (by rw [upd_ne (Ne.symm hne)]; exact hy) ⟨dx, [], rfl, .nil⟩
  exact ⟨I1, _, .ptr y :: ds, _, _, h4, .cons .ptr r, q y n4, fun d O' v J H' q s a r => by obtain ⟨e, q⟩ := q; subst e; cases r; exact ⟨rfl, .of a (s1.trans s) .ptr q⟩, fun _ _ _ _ z => z.elim⟩
theorem de_make0 {x : Str} {C : Addr} {k n : Nat} {sp : SpD} {p : Pos} (V : MkD M X.prog X.w X.K X.mg X.base x C k sp) (hr : Room n X.A) (hk : k + 1 ≤ n) (hg : Gl X x)
    (h : initAt sp C [] O Q fun _ _ => False) (hdb : (x == ("__debug__" : Str)) = false := by decide) : DE X B (.Call (.Name x p) [] [] pos) δ O Q := by
  obtain ⟨f, fd, ps, F, mk, hm, hb⟩ := V.ex
  refine DE.of (pe_make0 (E := E0) mk F (hr.mono hk) hg hm hb .nil M.lets hdb) fun σ H1 I1 e1 h2 b1 => ?_
  intro y dx hy hdx hne
  obtain ⟨nd, _⟩ := h2.none_of hdx
  have h3 : Hd X.K I1 O (upd H1 dx (.own y)) := by
    refine ⟨fun b u z => ?_, fun b c z => ?_⟩
    · rw [upd_ne fun w => by rw [w, nd] at z; cases z]; exact h2.sub _ _ z
    · have := h2.none_of hdx
      rw [upd_ne fun w => by rw [w, this.2] at z; cases z]; exact h2.cel _ _ z
  obtain ⟨n4, h4⟩ := h3.newO (a := y) (o := .ins C dx []) (c := .ins C []) (by rw [upd_ne (Ne.symm hne)]; exact hy) ⟨dx, [], rfl, .nil⟩
  exact ⟨I1, _, [.ptr y], _, _, h4, .cons .ptr .nil, h y n4, fun d O' v J H' q s a r => by obtain ⟨e, q⟩ := q; subst e; cases r; exact ⟨rfl, .of a s .ptr q⟩, fun _ _ _ _ z => z.elim⟩
/-! ### .. that may raise -/
theorem de_ownX {C : Addr} {o : Expr} {m : Str} {apos : Pos} {k n : Nat} {sp : SpD} {W : Addr → EN → OH → Prop} (V : MtD M X.prog X.w X.K X.mg X.base C m k sp) (tk : M.takes X (wx X.K B W)) (c : Cls X.K C) (hr : Room n X.A) (hk : k ≤ n)
    (h : DE X B o δ O fun x O1 => ∃ fs, RdI O1 x C fs ∧ NoFld fs m ∧ DA X B (e :: es) δ O1 fun ds O2 => sp (x :: ds) O2 Q fun C O3 => W C δ O3)
    (hst : starEach (e :: es) X.env = (false, eval e X.env) :: starEach es X.env := by rfl) (hpl : (backTo pos (starEach es X.env)).any (·.1) = false := by rfl) {pl : Sem Bool}
    (ht : eval (.Call (.Attribute o m apos) (e :: es) [] pos) X.env = (do
      let ov ← eval o X.env
      standAt apos.atName
      let (f, first) ← holding [ov] (getMethod ov m pl)
      callWith pos f first (backTo pos (starEach (e :: es) X.env)) (backToKw pos (keywordEach [] X.env))) := by rfl) : DE X B (.Call (.Attribute o m apos) (e :: es) [] pos) δ O Q := by
  obtain ⟨f, fd, ps, F, hm, hb⟩ := V.ex
  intro σ H I e1 h1 b1 pins s J
  refine PySem.W.methodCall_KW (pl := pl) (thn (h σ H I e1 h1 b1 pins s J) fun u t1 ⟨x, H1, J1, rx, I1, O1, d, s1, h2, r, fs, hi, hn, q⟩ => ?_) ht
  obtain ⟨p, dx, fv, rfl, h3, h4⟩ := hi.at h2 r
  obtain rfl : u = Value.ref p := rx
  refine getmeth_ok J1 h3 c hm (hn.look h4) ?_
  refine PySem.W.callWith_K (first := [.ref p]) (h₀ := X.base) J1.ok.mod.kin hm.kp (thn (q σ H1 I1 (e1.mono s1) h2 (b1.trans s1) pos pins t1 J1) fun us t2 ⟨vs, H2, J2, r1, I2, O2, ds, s2, h5, r2, q2⟩ => ⟨J2.kIn, ?_⟩) hst hpl
  refine run_fnS (E := WE (wx X.K B W)) (us := .ref p :: us) (vs := .ref p :: vs) F (hr.mono hk) hb (M.pass tk σ) J2 (.cons rfl r1) ?_
  exact ⟨I2, O2, d :: ds, _, _, h5, .cons (r.mono s2) r2, q2, fun d O' v J H' q s a r => .of a ((s1.trans s2).trans s) r q,
    fun C O' J H' q s a => ⟨C, J, O', δ, rfl, rfl, ((b1.trans s1).trans s2).trans s, a, e1.mono ((s1.trans s2).trans s), q⟩⟩
theorem de_own0X {C : Addr} {o : Expr} {m : Str} {apos : Pos} {k n : Nat} {sp : SpD} {W : Addr → EN → OH → Prop} (V : MtD M X.prog X.w X.K X.mg X.base C m k sp) (tk : M.takes X (wx X.K B W)) (c : Cls X.K C) (hr : Room n X.A) (hk : k ≤ n)
    (h : DE X B o δ O fun x O1 => ∃ fs, RdI O1 x C fs ∧ NoFld fs m ∧ sp [x] O1 Q fun C O3 => W C δ O3) {pl : Sem Bool}
    (ht : eval (.Call (.Attribute o m apos) [] [] pos) X.env = (do
      let ov ← eval o X.env
      standAt apos.atName
      let (f, first) ← holding [ov] (getMethod ov m pl)
      callWith pos f first (backTo pos (starEach [] X.env)) (backToKw pos (keywordEach [] X.env))) := by rfl) : DE X B (.Call (.Attribute o m apos) [] [] pos) δ O Q := by
  obtain ⟨f, fd, ps, F, hm, hb⟩ := V.ex
  intro σ H I e1 h1 b1 pins s J
  refine PySem.W.methodCall_KW (pl := pl) (thn (h σ H I e1 h1 b1 pins s J) fun u t1 ⟨x, H1, J1, rx, I1, O1, d, s1, h2, r, fs, hi, hn, q⟩ => ?_) ht
  obtain ⟨p, dx, fv, rfl, h3, h4⟩ := hi.at h2 r
  obtain rfl : u = Value.ref p := rx
  refine getmeth_ok J1 h3 c hm (hn.look h4) ?_
  refine PySem.W.callWith_K0 (first := [.ref p]) J1.kIn hm.kp (run_fnS (E := WE (wx X.K B W)) (us := [.ref p]) (vs := [.ref p]) F (hr.mono hk) hb (M.pass tk σ) J1 (.cons rfl .nil) ?_)
  exact ⟨I1, O1, [d], _, _, h2, .cons r .nil, q, fun d O' v J H' q s a r => .of a (s1.trans s) r q, fun C O' J H' q s a => ⟨C, J, O', δ, rfl, rfl, (b1.trans s1).trans s, a, e1.mono (s1.trans s), q⟩⟩
theorem tkNone : M.takes X (wx X.K B fun _ _ _ => False) := M.imp M.nil fun _ _ _ _ ⟨_, _, _, _, _, _, _, _, _, z⟩ => z
end
end DL

namespace DL
open PySem PySem.Spec PyProof.Rows L2
section
variable {X : Cx} {B : Hp} {e a b c tg iter : Expr} {es : List Expr} {st : Stmt} {rest body : List Stmt} {δ : EN} {O : OH} {Q R : D → OH → Prop} {E : ED} {pos : Pos} {K : PySem.W.Frag} {I J : Hp}
theorem PostS.of {Q : EN → OH → Prop} {σ : L2.St} {H : Hp} (h : Hd K J O H) (s : Same I J) (e : EOk K J σ δ) (q : Q δ O) : PostS K I Q σ H := ⟨J, O, δ, s, h, e, q⟩

/-! ### blocks -/
theorem ds_nil (q : E.nx δ O) : DSs X B [] E δ O := DSs.of pss_nil fun σ H I e1 h1 b1 => .of h1 (Same.refl _) e1 q
theorem ds_cons (h : DS X B st ⟨fun δ' O' => DSs X B rest E δ' O', E.rt, E.bk, E.ct⟩ δ O) : DSs X B (st :: rest) E δ O :=
  DSs.of (pss_cons selfS selfSs) fun σ H I e1 h1 b1 => tS_mono (h σ H I e1 h1 b1) ⟨fun σ' H' ⟨J, O', δ', s, h2, e2, q⟩ => tSs_mono (q σ' H' J e2 h2 (b1.trans s)) (endsLe s ⟨fun _ _ z => z, fun _ _ z => z, fun _ _ z => z, fun _ _ z => z⟩), fun _ _ z => z, fun _ _ z => z, fun _ _ z => z⟩
theorem ds_expr (h : DE X B e δ O fun _ O1 => E.nx δ O1) (hs : swapsWith e none pos.line X.env = pure false := by rfl) : DS X B (.Expr e pos) E δ O :=
  DS.of (ps_expr selfE hs) fun σ H I e1 h1 b1 => tE_mono (h σ H I e1 h1 b1) fun x H1 ⟨I1, O1, d, s1, h2, r, q⟩ => .of h2 s1 (e1.mono s1) q
/-- a return, cells forgotten -/
theorem ds_ret (h : DE X B e δ O fun d O1 => ∃ O2, SubO O2 O1 ∧ E.rt d O2) : DS X B (.Return (some e) pos) E δ O :=
  DS.of (ps_ret selfE) fun σ H I e1 h1 b1 => tE_mono (h σ H I e1 h1 b1) fun x H1 ⟨I1, O1, d, s1, h2, r, O2, w, q⟩ => .of (h2.weak w) s1 r q
theorem ds_retN (h : ∃ O2, SubO O2 O ∧ E.rt .non O2) : DS X B (.Return none pos) E δ O :=
  DS.of ps_retN fun σ H I e1 h1 b1 => let ⟨O2, w, q⟩ := h; .of (h1.weak w) (Same.refl _) .non q
theorem ds_pass (q : E.nx δ O) : DS X B (.Pass pos) E δ O := DS.of ps_pass fun σ H I e1 h1 b1 => .of h1 (Same.refl _) e1 q
theorem ds_break (q : E.bk δ O) : DS X B (.Break pos) E δ O := DS.of ps_break fun σ H I e1 h1 b1 => .of h1 (Same.refl _) e1 q
theorem ds_cont (q : E.ct δ O) : DS X B (.Continue pos) E δ O := DS.of ps_continue fun σ H I e1 h1 b1 => .of h1 (Same.refl _) e1 q
theorem ds_if {sa sb : List Stmt} (h : DT X B c δ O fun k O1 => (k = true → DSs X B sa E δ O1) ∧ (k = false → DSs X B sb E δ O1)) : DS X B (.If c sa sb pos) E δ O :=
  DS.of (ps_if selfT selfSs selfSs) fun σ H I e1 h1 b1 => tT_mono (h σ H I e1 h1 b1) fun k H1 ⟨I1, O1, s1, h2, qt, qf⟩ => by
    cases k with
    | true => exact iteT (tSs_mono (qt rfl σ H1 I1 (e1.mono s1) h2 (b1.trans s1)) (endsLe s1 ⟨fun _ _ z => z, fun _ _ z => z, fun _ _ z => z, fun _ _ z => z⟩))
    | false => exact iteF (tSs_mono (qf rfl σ H1 I1 (e1.mono s1) h2 (b1.trans s1)) (endsLe s1 ⟨fun _ _ z => z, fun _ _ z => z, fun _ _ z => z, fun _ _ z => z⟩))

/-! ### targets -/
def tG (X : Cx) (t : Expr) : TG := fun v σ H Q => ∀ pins s u, Inv X pins σ H s → RelV v u → wpAny (model X.prog X.w) X.A (assign t X.env u) (fun _ s' => ∃ σ' H', Inv X pins σ' H' s' ∧ Q σ' H') X.xe s
theorem selfG {t : Expr} : PG X t (tG X t) := ⟨fun pins s σ H v u Q I r h => h pins s u I r⟩
theorem tG_mono {t : Expr} {v : V} {σ : L2.St} {H : Hp} {Q R : L2.St → Hp → Prop} (h : tG X t v σ H Q) (k : ∀ σ H, Q σ H → R σ H) : tG X t v σ H R := fun pins s u I r =>
  thn (h pins s u I r) fun _ s' ⟨σ', H', I', q⟩ => ⟨σ', H', I', k _ _ q⟩
def DG (X : Cx) (B : Hp) (t : Expr) (d : D) (δ : EN) (O : OH) (Q : EN → OH → Prop) : Prop := ∀ v σ H I, EOk X.K I σ δ → Hd X.K I O H → Same B I → Rep X.K I d v → tG X t v σ H (PostS X.K I Q)
theorem DG.of {t : Expr} {g : TG} {d : D} {Q : EN → OH → Prop} (h : PG X t g) (k : ∀ v σ H I, EOk X.K I σ δ → Hd X.K I O H → Same B I → Rep X.K I d v → g v σ H (PostS X.K I Q)) : DG X B t d δ O Q :=
  fun v σ H I a b c r pins s u J rr => h.run pins s σ H v u _ J rr (k v σ H I a b c r)
theorem dg_name {N : List Str} {x : Str} {d : D} {δ' : EN} {Q : EN → OH → Prop} (hN : X.N = N) (nd : X.N.Nodup) (hs : SetS N δ x d δ') (q : Q δ' O) (hx : Loc X.env.scope x := by first | exact Or.inl rfl | exact Or.inr rfl)
    (hf : X.fn x = true ∨ X.env.scope.names.lookup x = some .local := by first | exact Or.inl rfl | exact Or.inr rfl) : DG X B (.Name x pos) d δ O Q := by
  obtain ⟨i, hi, hd⟩ := hs.ix
  refine DG.of (pg_name (i := i) nd (by rw [hN]; exact hi) hx hf) fun v σ H I e1 h1 b1 r => ?_
  have e2 := e1.set (i := i) r
  rw [hd] at e2
  exact .of h1 (Same.refl _) e2 q
/-- several targets -/
def tGs (X : Cx) (ts : List Expr) : TGs := fun vs σ H Q => ∀ pins s us, Inv X pins σ H s → Vals vs us → wpAny (model X.prog X.w) X.A (assignInOrder ((assignEach ts X.env).map (·.2)) us) (fun _ s' => ∃ σ' H', Inv X pins σ' H' s' ∧ Q σ' H') X.xe s
theorem selfGs {ts : List Expr} : PGs X ts (tGs X ts) := ⟨fun pins s σ H vs us Q I r h => h pins s us I r⟩
theorem tGs_mono {ts : List Expr} {vs : List V} {σ : L2.St} {H : Hp} {Q R : L2.St → Hp → Prop} (h : tGs X ts vs σ H Q) (k : ∀ σ H, Q σ H → R σ H) : tGs X ts vs σ H R := fun pins s us I r =>
  thn (h pins s us I r) fun _ s' ⟨σ', H', I', q⟩ => ⟨σ', H', I', k _ _ q⟩
def DGs (X : Cx) (B : Hp) (ts : List Expr) (ds : List D) (δ : EN) (O : OH) (Q : EN → OH → Prop) : Prop := ∀ vs σ H I, EOk X.K I σ δ → Hd X.K I O H → Same B I → Reps X.K I ds vs → tGs X ts vs σ H (PostS X.K I Q)
theorem dgs_nil {Q : EN → OH → Prop} (q : Q δ O) : DGs X B [] [] δ O Q := fun vs σ H I e1 h1 b1 r pins s us J rr => pgs_nil.run pins s σ H vs us _ J rr (by cases r; exact ⟨rfl, .of h1 (Same.refl _) e1 q⟩)
theorem dgs_cons {t : Expr} {ts : List Expr} {d : D} {ds : List D} {Q : EN → OH → Prop} (h : DG X B t d δ O fun δ' O' => DGs X B ts ds δ' O' Q)
    (hs : (assignEach (t :: ts) X.env).map (·.2) = assign t X.env :: (assignEach ts X.env).map (·.2) := by rfl) : DGs X B (t :: ts) (d :: ds) δ O Q :=
  fun vs σ H I e1 h1 b1 r pins s us J rr => (pgs_cons selfG selfGs hs).run pins s σ H vs us _ J rr (by
    cases r with
    | cons r1 r2 =>
      exact ⟨_, _, rfl, tG_mono (h _ σ H I e1 h1 b1 r1) fun σ' H' ⟨J, O', δ', s, h2, e2, q⟩ => tGs_mono (q _ σ' H' J e2 h2 (b1.trans s) (r2.mono s)) fun _ _ p => p.mono s fun _ _ q => q⟩)
theorem dg_tup {ts : List Expr} {k : Nat} {ds : List D} {Q : EN → OH → Prop} (hc : X.calm = true) (h : DGs X B ts ds δ O Q) (hl : ds.length = ts.length)
    (hn : (assignEach ts X.env).length = ts.length := by rfl) (hst : (assignEach ts X.env).findIdx? (·.1) = none := by rfl) : DG X B (.Tuple ts k pos) (.tup ds) δ O Q :=
  DG.of (pg_tup hc selfGs hn hst) fun v σ H I e1 h1 b1 r => by
    obtain ⟨p, vs, rfl, h2, h3⟩ := tup_seq h1 r
    exact ⟨p, vs, rfl, h2, by rw [← h3.len]; exact hl, h vs σ H I e1 h1 b1 h3⟩
/-- o[i] = .. -/
def SetD (X : Cx) (B : Hp) (o i d : D) (O : OH) (Q : OH → Prop) : Prop := ∃ t, PSet X t ∧ ∀ I H vo vi v, Hd X.K I O H → Same B I → Rep X.K I o vo → Rep X.K I i vi → Rep X.K I d v → ∀ W : Hp → Prop, (∀ H' J O', Same I J → Hd X.K J O' H' → Q O' → W H') → t vo vi v H W
def rSet (X : Cx) : TSet := fun o i v H Q => ∃ t, PSet X t ∧ t o i v H Q
theorem rSet_p : PSet X (rSet X) := fun pins s σ H o i v ov iv u Q I r1 r2 r3 ⟨t, ht, h⟩ => ht pins s σ H o i v ov iv u Q I r1 r2 r3 h
theorem dg_sub {o i : Expr} {d : D} {Q : EN → OH → Prop} (h : DE X B o δ O fun x O1 => DE X B i δ O1 fun y O2 => SetD X B x y d O2 fun O3 => Q δ O3)
    {tgs : PG X (.Subscript o i pos) (gSub (tE X o) (tE X i) (rSet X))} : DG X B (.Subscript o i pos) d δ O Q :=
  DG.of tgs fun v σ H I e1 h1 b1 r => tE_mono (h σ H I e1 h1 b1) fun x H1 ⟨I1, O1, d1, s1, h2, r1, q1⟩ => tE_mono (q1 σ H1 I1 (e1.mono s1) h2 (b1.trans s1)) fun y H2 ⟨I2, O2, d2, s2, h3, r2, t, ht, q2⟩ =>
    ⟨t, ht, q2 I2 H2 x y v h3 ((b1.trans s1).trans s2) (r1.mono s2) r2 ((r.mono s1).mono s2) _ fun H' J O' s h4 q => .of h4 ((s1.trans s2).trans s) (((e1.mono s1).mono s2).mono s) q⟩
theorem set_lstD {l : Addr} {ds : List D} {i : Int} {j : Nat} {d : D} {Q : OH → Prop} (h : O l = some (.lst ds)) (hj : ixN ds.length i = some j) (q : Q (updO O l (.lst (ds.set j d)))) : SetD X B (.ptr l) (.int i) d O Q :=
  ⟨_, set_list, fun I H vo vi v a b r1 r2 r3 W k => by
    cases r1; cases r2
    obtain ⟨_, us, h1, h2⟩ := a.cel _ _ h
    exact ⟨l, us, i, j, rfl, rfl, h1, by rw [← h2.len]; exact hj, k _ I _ (Same.refl _) (a.wl h (h2.set r3 j)) q⟩⟩
theorem ds_asg (h : DE X B e δ O fun d O1 => DG X B tg d δ O1 E.nx) (hs : swapsWithSole [tg] e pos.line X.env = pure false := by rfl) (hw : swappedStores [tg] e X.env = pure none := by rfl)
    (h1 : (assignEach [tg] X.env).map (·.2) = [assign tg X.env] := by rfl) : DS X B (.Assign [tg] e pos) E δ O :=
  DS.of (ps_asg selfE selfG hs hw h1) fun σ H I e1 h1 b1 => tE_mono (h σ H I e1 h1 b1) fun x H1 ⟨I1, O1, d, s1, h2, r, q⟩ => tG_mono (q x σ H1 I1 (e1.mono s1) h2 (b1.trans s1) r) fun _ _ p => p.mono s1 fun _ _ q => q
/-- a, b = x, y -/
theorem ds_par {N : List Str} {x y : Str} {px py pt : Pos} {kt k2 pt2} (hc : X.calm = true) (hN : X.N = N) (nd : X.N.Nodup) (hxy : x ≠ y) (h : DA X B [a, b] δ O fun ds O1 => ∃ d d' δ1 δ2, ds = [d, d'] ∧ SetS N δ x d δ1 ∧ SetS N δ1 y d' δ2 ∧ E.nx δ2 O1)
    (hw : swappedStores [.Tuple [.Name x px, .Name y py] kt pt] (.Tuple [a, b] k2 pt2) X.env = pure (some [x, y])) (hx : X.env.scope.names.lookup x = some .local := by rfl) (hy : X.env.scope.names.lookup y = some .local := by rfl)
    (hix : ∃ i j : Nat, X.N[i]? = some x ∧ X.N[j]? = some y)
    (hs : swapsWithSole [.Tuple [.Name x px, .Name y py] kt pt] (.Tuple [a, b] k2 pt2) pos.line X.env = pure false := by rfl) :
    DS X B (.Assign [.Tuple [.Name x px, .Name y py] kt pt] (.Tuple [a, b] k2 pt2) pos) E δ O := by
  obtain ⟨i, j, hi, hj⟩ := hix
  have hij : i ≠ j := fun z => by rw [z, hj] at hi; exact hxy (Option.some.inj hi).symm
  refine DS.of (ps_par (i := i) (j := j) hc nd hi hj hij hx hy selfA hw hs) fun σ H I e1 h1 b1 => tA_mono (h σ H I e1 h1 b1) fun vs H1 ⟨I1, O1, ds, s1, h2, r, d, d', δ1, δ2, hd, t1, t2, q⟩ => ?_
  subst hd
  obtain ⟨v, u, rfl, r1, r2⟩ := reps2 r
  obtain ⟨i', hi', ei⟩ := t1.ix
  obtain ⟨j', hj', ej⟩ := t2.ix
  rw [← hN] at hi' hj'
  have ii : i' = i := nodup_ix nd hi' hi
  have jj : j' = j := nodup_ix nd hj' hj
  subst ii; subst jj
  refine ⟨v, u, rfl, ?_⟩
  have e2 := ((e1.mono s1).set (i := i') r1)
  rw [ei] at e2
  have e3 := e2.set (i := j') r2
  rw [ej] at e3
  exact .of h2 s1 e3 q
/-- x += e, ints -/
theorem ds_augI {N : List Str} {x : Str} {px : Pos} {i : Int} (hN : X.N = N) (nd : X.N.Nodup) (hs : NmAt N δ x (.int i)) (h : DE X B e δ O fun d O1 => ∃ j δ', d = .int j ∧ SetS N δ x (.int (i + j)) δ' ∧ E.nx δ' O1) (hx : Loc X.env.scope x := by first | exact Or.inl rfl | exact Or.inr rfl)
    (hf : X.fn x = true ∨ X.env.scope.names.lookup x = some .local := by first | exact Or.inl rfl | exact Or.inr rfl) : DS X B (.AugAssign (.Name x px) .Add e pos) E δ O := by
  obtain ⟨n, hn, hd⟩ := hs.ix
  refine DS.of (ps_aug (i := n) nd (by rw [hN]; exact hn) hx selfE ip_add hf) fun σ H I e1 h1 b1 => ?_
  obtain ⟨v, hv, rv⟩ := e1.2 n _ hd
  refine ⟨v, hv, tE_mono (h σ H I e1 h1 b1) fun y H1 ⟨I1, O1, d, s1, h2, r, j, δ', hj, t1, q⟩ => ?_⟩
  subst hj
  cases rv; cases r
  refine ⟨i, j, rfl, rfl, ?_⟩
  obtain ⟨n', hn', en⟩ := t1.ix
  have nn : n' = n := nodup_ix nd (by rw [hN]; exact hn') (by rw [hN]; exact hn)
  subst nn
  have e2 := (e1.mono s1).set (i := n') (d := .int (i + j)) (v := .int (i + j)) .int
  rw [en] at e2
  exact .of h2 s1 e2 q
/-- o.f = e -/
theorem ds_fld {f : Str} {C : Addr} {o : Expr} {pos' : Pos} (c : Cls X.K C) (n : NoAttr X.K C f) (h : DE X B e δ O fun d O1 => DE X B o δ O1 fun x O2 => ∃ l fs fs', x = .ptr l ∧ O2 l = some (.ins C fs) ∧ Put fs f d fs' ∧ fs.length < 1000 ∧ E.nx δ (updO O2 l (.ins C fs')))
    (hs : swapsWith e (some (.Attribute o f pos')) pos.line X.env = pure false := by rfl) : DS X B (.Assign [.Attribute o f pos'] e pos) E δ O :=
  DS.of (ps_fld selfE selfE hs) fun σ H I e1 h1 b1 => tE_mono (h σ H I e1 h1 b1) fun v H1 ⟨I1, O1, d, s1, h2, r1, q1⟩ => tE_mono (q1 σ H1 I1 (e1.mono s1) h2 (b1.trans s1)) fun x H2 ⟨I2, O2, d2, s2, h3, r2, l, fs, fs', hx, hl, hp, hz, q⟩ => by
    subst hx; cases r2
    obtain ⟨n1, dx, fv, h4, h5⟩ := h3.cel _ _ hl
    refine ⟨l, C, dx, fv, rfl, h4, c, n, by rw [← h5.len]; exact hz, ?_⟩
    have h6 := h3.write (c := .ins C fs') (o := .ins C dx (putF f v fv)) hl ⟨dx, _, rfl, hp.rep h5 (r1.mono s2)⟩
    exact .of h6 (s1.trans s2) ((e1.mono s1).mono s2) q

/-! ### while -/
theorem ds_while (hp : PassesOwn (model X.prog X.w) X.A X.env X.xe) (W : Nat → EN → OH → Prop) (m0 : Nat) (h0 : W m0 δ O)
    (hs : ∀ m δ' O', W m δ' O' → DT X B c δ' O' fun k O1 => (k = true → DSs X B body ⟨fun δ2 O2 => ∃ m', m' < m ∧ W m' δ2 O2, E.rt, E.nx, fun δ2 O2 => ∃ m', m' < m ∧ W m' δ2 O2⟩ δ' O1) ∧ (k = false → E.nx δ' O1)) : DS X B (.While c body [] pos) E δ O :=
  DS.of (ps_while hp selfT selfSs) fun σ H I e1 h1 b1 => by
    refine ⟨fun m σ' H' => ∃ J O' δ', Same I J ∧ Hd X.K J O' H' ∧ EOk X.K J σ' δ' ∧ W m δ' O', ⟨m0, I, O, δ, Same.refl _, h1, e1, h0⟩, ?_⟩
    rintro m σ' H' ⟨J, O', δ', s, h2, e2, w⟩
    refine tT_mono (hs m δ' O' w σ' H' J e2 h2 (b1.trans s)) fun k H1 ⟨I1, O1, s1, h3, qt, qf⟩ => ?_
    cases k with
    | true =>
      refine iteT ⟨fun σ2 H2 => PostS X.K I (fun δ2 O2 => ∃ m', m' < m ∧ W m' δ2 O2) σ2 H2, fun σ2 H2 ⟨J2, O2, δ2, s2, h4, e4, m', hm, w'⟩ => ⟨m', hm, J2, O2, δ2, s2, h4, e4, w'⟩, ?_⟩
      exact tSs_mono (qt rfl σ' H1 I1 (e2.mono s1) h3 ((b1.trans s).trans s1)) ⟨fun _ _ p => p.mono (s.trans s1) fun _ _ q => q, fun _ _ p => p.mono (s.trans s1) fun _ _ q => q, fun _ _ p => p.mono (s.trans s1) fun _ _ q => q, fun _ _ p => p.mono (s.trans s1) fun _ _ q => q⟩
    | false => exact iteF (.of h3 (s.trans s1) (e2.mono s1) (qf rfl))

/-! ### what is walked -/
/-- the items of an iterator, by value; St: what must stand while it goes -/
structure ItD (K : PySem.W.Frag) (I0 : Hp) (J : It) (items : List D) (Stn : OH → Prop) : Prop where
  go : ∀ (i : Nat) I O H, Same I0 I → Hd K I O H → Stn O → i < items.length → J.go i H
  yld : ∀ (i : Nat) I O H x H', Same I0 I → Hd K I O H → Stn O → i < items.length → J.yld i H x H' → ∃ I' d, Same I I' ∧ Hd K I' O H' ∧ items[i]? = some d ∧ Rep K I' d x
  stop : ∀ (i : Nat) I O H, Same I0 I → Hd K I O H → Stn O → items.length ≤ i → J.stop i H
def DI (X : Cx) (B : Hp) (tg iter : Expr) (δ : EN) (O : OH) (R : List D → (OH → Prop) → OH → Prop) : Prop :=
  ∃ wi, PI X tg iter wi ∧ ∀ σ H I, EOk X.K I σ δ → Hd X.K I O H → Same B I → ∀ W : It → Hp → Prop, (∀ J H1 I1 O1 items Stn, Same I I1 → Hd X.K I1 O1 H1 → ItD X.K I1 J items Stn → R items Stn O1 → W J H1) → wi σ H W
theorem ds_for (hp : PassesOwn (model X.prog X.w) X.A X.env X.xe) (hc : X.calm = true)
    (h : DI X B tg iter δ O fun items Stn O1 => ∃ P : Nat → EN → OH → Prop, P 0 δ O1 ∧ (∀ i δ' O', P i δ' O' → Stn O') ∧
      (∀ i x δ' O', items[i]? = some x → P i δ' O' → DG X B tg x δ' O' fun δ2 O2 => DSs X B body ⟨P (i + 1), E.rt, E.nx, P (i + 1)⟩ δ2 O2) ∧ ∀ δ' O', P items.length δ' O' → E.nx δ' O')
    (hs : ∀ x, foldedSetIterable iter X.env x = pure x := by intro _; rfl) : DS X B (.For tg iter body [] pos) E δ O := by
  obtain ⟨wi, hi, h⟩ := h
  refine DS.of (ps_for hp hc hi selfG selfSs hs) fun σ H I e1 h1 b1 => ?_
  refine h σ H I e1 h1 b1 _ fun J H1 I1 O1 items Stn s1 h2 it ⟨P, p0, pst, pturn, pend⟩ => ?_
  refine ⟨fun i m σ' H' => ∃ I2 O2 δ2, Same I1 I2 ∧ Hd X.K I2 O2 H' ∧ EOk X.K I2 σ' δ2 ∧ P i δ2 O2 ∧ m = items.length - i ∧ i ≤ items.length, ⟨items.length, I1, O1, δ, Same.refl _, h2, e1.mono s1, p0, rfl, Nat.zero_le _⟩, ?_⟩
  rintro i m σ' H' ⟨I2, O2, δ2, s2, h3, e2, p, rfl, hi⟩
  by_cases hlt : i < items.length
  · refine .inr ⟨it.go i I2 O2 H' s2 h3 (pst _ _ _ p) hlt, fun σ3 H3 => PostS X.K I (P (i + 1)) σ3 H3 ∧ ∃ I3 O3 δ3, Same I1 I3 ∧ Hd X.K I3 O3 H3 ∧ EOk X.K I3 σ3 δ3 ∧ P (i + 1) δ3 O3, ?_, ?_⟩
    · rintro σ3 H3 ⟨_, I3, O3, δ3, s3, h4, e3, p3⟩
      exact ⟨items.length - (i + 1), by omega, I3, O3, δ3, s3, h4, e3, p3, rfl, hlt⟩
    · intro x H4 y
      obtain ⟨I4, d, s4, h5, hd, r⟩ := it.yld i I2 O2 H' x H4 s2 h3 (pst _ _ _ p) hlt y
      refine tG_mono (pturn i d δ2 O2 hd p x σ' H4 I4 (e2.mono s4) h5 (((b1.trans s1).trans s2).trans s4) r) fun σ5 H5 ⟨I5, O5, δ5, s5, h6, e5, q⟩ => ?_
      have t : Same I I5 := ((s1.trans s2).trans s4).trans s5
      have t1 : Same I1 I5 := (s2.trans s4).trans s5
      have up : ∀ {σ6 H6}, PostS X.K I5 (P (i + 1)) σ6 H6 → PostS X.K I (P (i + 1)) σ6 H6 ∧ ∃ I3 O3 δ3, Same I1 I3 ∧ Hd X.K I3 O3 H6 ∧ EOk X.K I3 σ6 δ3 ∧ P (i + 1) δ3 O3 := fun {σ6 H6} ⟨I6, O6, δ6, s6, h7, e6, p6⟩ => ⟨⟨I6, O6, δ6, t.trans s6, h7, e6, p6⟩, I6, O6, δ6, t1.trans s6, h7, e6, p6⟩
      exact tSs_mono (q σ5 H5 I5 e5 h6 (b1.trans t)) ⟨fun _ _ p => up p, fun _ _ p => p.mono t fun _ _ q => q, fun _ _ p => p.mono t fun _ _ q => q, fun _ _ p => up p⟩
  · have e : i = items.length := by omega
    subst e
    exact .inl ⟨it.stop _ I2 O2 H' s2 h3 (pst _ _ _ p) (Nat.le_refl _), .of h3 (s1.trans s2) e2 (pend _ _ p)⟩
/-- a list -/
theorem di_list {R : List D → (OH → Prop) → OH → Prop} (h : DE X B iter δ O fun x O1 => ∃ ds, RdL O1 x ds ∧ R ds (fun O' => RdL O' x ds) O1) : DI X B tg iter δ O R :=
  ⟨_, pi_list selfE, fun σ H I e1 h1 b1 W k => tE_mono (h σ H I e1 h1 b1) fun v H1 ⟨I1, O1, x, s1, h2, r, ds, hr, q⟩ => by
    obtain ⟨p, vs, hv, hq, _⟩ := hr.seq h2 r
    subst hv
    have at_ : ∀ {I2 O2 H2}, Same I1 I2 → Hd X.K I2 O2 H2 → RdL O2 x ds → ∃ vs, SqL X.K H2 p vs ∧ Reps X.K I2 ds vs := fun {I2 O2 H2} s h3 hr2 => by
      obtain ⟨p', vs', e, h4, h5⟩ := hr2.seq h3 (r.mono s)
      cases e
      exact ⟨vs', h4, h5⟩
    refine ⟨p, rfl, ⟨vs, hq⟩, k _ _ I1 O1 ds (fun O' => RdL O' x ds) s1 h2 ⟨fun i I2 O2 H2 s h3 st hl => ?_, fun i I2 O2 H2 y H3 s h3 st _ hy => ?_, fun i I2 O2 H2 s h3 st hl => ?_⟩ q⟩
    · obtain ⟨vs, h4, h5⟩ := at_ s h3 st
      obtain ⟨v, hv, _⟩ := h5.get (List.getElem?_eq_getElem hl)
      exact ⟨vs, v, h4, hv⟩
    · obtain ⟨vs, h4, h5⟩ := at_ s h3 st
      obtain ⟨e, hy⟩ := hy
      subst e
      obtain ⟨d, hd, rd⟩ := h5.getV (hy vs h4)
      exact ⟨I2, d, Same.refl _, h3, hd, rd⟩
    · obtain ⟨vs, h4, h5⟩ := at_ s h3 st
      exact ⟨vs, h4, by rw [← h5.len]; exact hl⟩⟩
/-- a tuple -/
theorem di_tup {R : List D → (OH → Prop) → OH → Prop} (h : DE X B iter δ O fun x O1 => ∃ ds, x = .tup ds ∧ R ds (fun _ => True) O1) : DI X B tg iter δ O R :=
  ⟨_, pi_tup selfE, fun σ H I e1 h1 b1 W k => tE_mono (h σ H I e1 h1 b1) fun v H1 ⟨I1, O1, x, s1, h2, r, ds, hr, q⟩ => by
    subst hr
    obtain ⟨p, vs, hv, hq, _⟩ := tup_seq h2 r
    subst hv
    have at_ : ∀ {I2 O2 H2}, Same I1 I2 → Hd X.K I2 O2 H2 → ∃ vs, SqT X.K H2 p vs ∧ Reps X.K I2 ds vs := fun {I2 O2 H2} s h3 => by
      obtain ⟨p', vs', e, h4, h5⟩ := tup_seq h3 (r.mono s)
      cases e
      exact ⟨vs', h4, h5⟩
    refine ⟨p, rfl, ⟨vs, hq⟩, k _ _ I1 O1 ds (fun _ => True) s1 h2 ⟨fun i I2 O2 H2 s h3 st hl => ?_, fun i I2 O2 H2 y H3 s h3 st _ hy => ?_, fun i I2 O2 H2 s h3 st hl => ?_⟩ q⟩
    · obtain ⟨vs, h4, h5⟩ := at_ s h3
      obtain ⟨v, hv, _⟩ := h5.get (List.getElem?_eq_getElem hl)
      exact ⟨vs, v, h4, hv⟩
    · obtain ⟨vs, h4, h5⟩ := at_ s h3
      obtain ⟨e, hy⟩ := hy
      subst e
      obtain ⟨d, hd, rd⟩ := h5.getV (hy vs h4)
      exact ⟨I2, d, Same.refl _, h3, hd, rd⟩
    · obtain ⟨vs, h4, h5⟩ := at_ s h3
      exact ⟨vs, h4, by rw [← h5.len]; exact hl⟩⟩
/-- lo, lo + 1, .. -/
def upto (lo : Int) (n : Nat) : List D := (List.range n).map fun (i : Nat) => D.int (lo + (i : Int))
@[simp] theorem upto_len {lo : Int} {n : Nat} : (upto lo n).length = n := by simp [upto]
theorem upto_at {lo : Int} {n i : Nat} (hl : i < n) : (upto lo n)[i]? = some (.int (lo + (i : Int))) := by
  unfold upto
  rw [List.getElem?_map, List.getElem?_range hl]
  rfl
theorem upto_get {lo : Int} {n i : Nat} {d : D} (h : (upto lo n)[i]? = some d) : d = .int (lo + (i : Int)) ∧ i < n := by
  have hl : i < n := by
    have := (List.getElem?_eq_some_iff.mp h).1
    simpa using this
  rw [upto_at hl] at h
  exact ⟨(Option.some.inj h).symm, hl⟩
theorem itd_range {I0 : Hp} {lo : Int} {n : Nat} : ItD K I0 (Itr lo n) (upto lo n) (fun _ => True) where
  go := fun i I O H _ _ _ hl => by rw [upto_len] at hl; exact hl
  yld := fun i I O H x H' _ h _ hl hy => by
    rw [upto_len] at hl
    obtain ⟨e, e2⟩ := hy
    subst e; subst e2
    exact ⟨I, _, Same.refl _, h, upto_at hl, .int⟩
  stop := fun i I O H _ _ _ hl => by rw [upto_len] at hl; exact hl
theorem di_range1 {R : List D → (OH → Prop) → OH → Prop} {p : Pos} (hm : X.mg "range" = none) (hg : Gl X "range") (h : DA X B [a] δ O fun ds O1 => ∃ j : Int, ds = [.int j] ∧ (-(2 ^ 62) ≤ j ∧ j < 2 ^ 62) ∧ R (upto 0 j.toNat) (fun _ => True) O1)
    (hs : starEach [a] X.env = [(false, eval a X.env)] := by rfl) : DI X B tg (.Call (.Name "range" p) [a] [] pos) δ O R :=
  ⟨_, pi_range1 hg hm selfA hs, fun σ H I e1 h1 b1 W k => tA_mono (h σ H I e1 h1 b1) fun v H1 ⟨I1, O1, x, s1, h2, r, j, hj, hb, q⟩ => by
    subst hj
    obtain ⟨_, rfl, r1⟩ := reps1 r
    cases r1
    exact ⟨j, rfl, hb.1, hb.2, k _ _ I1 O1 _ _ s1 h2 itd_range q⟩⟩
theorem di_range2 {R : List D → (OH → Prop) → OH → Prop} {p : Pos} (hm : X.mg "range" = none) (hg : Gl X "range")
    (h : DA X B [a, b] δ O fun ds O2 => ∃ i j : Int, ds = [.int i, .int j] ∧ (-(2 ^ 62) ≤ i ∧ i < 2 ^ 62 ∧ -(2 ^ 62) ≤ j ∧ j < 2 ^ 62) ∧ R (upto i (j - i).toNat) (fun _ => True) O2)
    (hs : starEach [a, b] X.env = [(false, eval a X.env), (false, eval b X.env)] := by rfl) (hs2 : starEach [b] X.env = [(false, eval b X.env)] := by rfl) : DI X B tg (.Call (.Name "range" p) [a, b] [] pos) δ O R :=
  ⟨_, pi_range2 hg hm selfA hs hs2, fun σ H I e1 h1 b1 W k => tA_mono (h σ H I e1 h1 b1) fun v H1 ⟨I1, O1, x, s1, h2, r, i, j, hj, hb, q⟩ => by
    subst hj
    obtain ⟨_, _, rfl, r1, r2⟩ := reps2 r
    cases r1; cases r2
    exact ⟨i, j, rfl, hb, k _ _ I1 O1 _ _ s1 h2 itd_range q⟩⟩
/-- the signs of a text -/
def signs (x : Str) : List D := x.cps.toList.map fun c => D.str ⟨#[c]⟩
theorem di_str {R : List D → (OH → Prop) → OH → Prop} (h : DE X B iter δ O fun d O1 => ∃ x, d = .str x ∧ R (signs x) (fun _ => True) O1) : DI X B tg iter δ O R :=
  ⟨_, pi_str selfE, fun σ H I e1 h1 b1 W k => tE_mono (h σ H I e1 h1 b1) fun v H1 ⟨I1, O1, d, s1, h2, r, x, hx, q⟩ => by
    subst hx; cases r
    refine ⟨x, rfl, k _ _ I1 O1 _ _ s1 h2 ⟨fun i I2 O2 H2 s h3 st hl => ?_, fun i I2 O2 H2 y H3 s h3 st hl hy => ?_, fun i I2 O2 H2 s h3 st hl => ?_⟩ q⟩
    · simp [signs] at hl; exact hl
    · obtain ⟨e, c, hc, ey⟩ := hy
      subst e; subst ey
      refine ⟨I2, .str ⟨#[c]⟩, Same.refl _, h3, ?_, .str⟩
      simp [signs, List.getElem?_map, hc]
    · simp [signs] at hl; exact hl⟩
/-- enumerate of a list -/
def enumD (ds : List D) : List D := (List.range ds.length).map fun (i : Nat) => D.tup [.int (i : Int), ds.getD i .non]
@[simp] theorem enumD_len {ds : List D} : (enumD ds).length = ds.length := by simp [enumD]
theorem enumD_at {ds : List D} {i : Nat} {d : D} (h : ds[i]? = some d) : (enumD ds)[i]? = some (.tup [.int (i : Int), d]) := by
  have hl := (List.getElem?_eq_some_iff.mp h).1
  unfold enumD
  rw [List.getElem?_map, List.getElem?_range hl]
  simp [List.getD_eq_getElem?_getD, h]
theorem enumD_get {ds : List D} {i : Nat} {x : D} (h : (enumD ds)[i]? = some x) : ∃ d, ds[i]? = some d ∧ x = .tup [.int (i : Int), d] := by
  have hl := (List.getElem?_eq_some_iff.mp h).1
  rw [enumD_len] at hl
  have e := List.getElem?_eq_getElem hl
  rw [enumD_at e] at h
  exact ⟨_, e, (Option.some.inj h).symm⟩
theorem di_enum {R : List D → (OH → Prop) → OH → Prop} {p tpos : Pos} {elts : List Expr} {kk : Nat} (hm : X.mg "enumerate" = none) (hg : Gl X "enumerate") (h : DA X B [a] δ O fun xs O1 => ∃ x ds, xs = [x] ∧ RdL O1 x ds ∧ R (enumD ds) (fun O' => RdL O' x ds) O1)
    (hs : starEach [a] X.env = [(false, eval a X.env)] := by rfl) : DI X B (.Tuple elts kk tpos) (.Call (.Name "enumerate" p) [a] [] pos) δ O R :=
  ⟨_, pi_enum hg hm selfA hs, fun σ H I e1 h1 b1 W k => tA_mono (h σ H I e1 h1 b1) fun v H1 ⟨I1, O1, xs, s1, h2, rr, x, ds, hx, hr, q⟩ => by
    subst hx
    obtain ⟨v, rfl, r⟩ := reps1 rr
    obtain ⟨p, vs, hv, hq, _⟩ := hr.seq h2 r
    subst hv
    have at_ : ∀ {I2 O2 H2}, Same I1 I2 → Hd X.K I2 O2 H2 → RdL O2 x ds → ∃ vs, SqL X.K H2 p vs ∧ Reps X.K I2 ds vs := fun {I2 O2 H2} s h3 hr2 => by
      obtain ⟨p', vs', e, h4, h5⟩ := hr2.seq h3 (r.mono s)
      cases e
      exact ⟨vs', h4, h5⟩
    refine ⟨p, vs, rfl, hq, k _ _ I1 O1 _ (fun O' => RdL O' x ds) s1 h2 ⟨fun i I2 O2 H2 s h3 st hl => ?_, fun i I2 O2 H2 y H3 s h3 st hl hy => ?_, fun i I2 O2 H2 s h3 st hl => ?_⟩ q⟩
    · rw [enumD_len] at hl
      obtain ⟨vs, h4, h5⟩ := at_ s h3 st
      obtain ⟨v, hv, _⟩ := h5.get (List.getElem?_eq_getElem hl)
      exact ⟨vs, v, h4, hv⟩
    · obtain ⟨vs, h4, h5⟩ := at_ s h3 st
      obtain ⟨T, y, ev, hT, eH, hy⟩ := hy
      subst ev; subst eH
      obtain ⟨d, hd, rd⟩ := h5.getV (hy vs h4)
      obtain ⟨s5, h6⟩ := h3.newI (o := .tup [.int (i : Nat), y]) hT
      exact ⟨_, .tup [.int (i : Int), d], s5, h6, enumD_at hd, .tup (SqT.of upd_same) (.cons .int (.cons (rd.mono s5) .nil))⟩
    · rw [enumD_len] at hl
      obtain ⟨vs, h4, h5⟩ := at_ s h3 st
      exact ⟨vs, h4, by rw [← h5.len]; exact hl⟩⟩
/-- zip of two lists -/
def zipD (ds es : List D) : List D := (ds.zip es).map fun p => D.tup [p.1, p.2]
theorem zipD_len {ds es : List D} : (zipD ds es).length = min ds.length es.length := by simp [zipD]
theorem zipD_at {ds es : List D} {i : Nat} {d d' : D} (h : ds[i]? = some d) (h' : es[i]? = some d') : (zipD ds es)[i]? = some (.tup [d, d']) := by
  unfold zipD
  rw [List.getElem?_map, List.getElem?_zip_eq_some (z := (d, d')) |>.mpr ⟨h, h'⟩]
  rfl
theorem zipD_get {ds es : List D} {i : Nat} {x : D} (h : (zipD ds es)[i]? = some x) : ∃ d d', ds[i]? = some d ∧ es[i]? = some d' ∧ x = .tup [d, d'] := by
  have hl := (List.getElem?_eq_some_iff.mp h).1
  rw [zipD_len] at hl
  have e1 := List.getElem?_eq_getElem (l := ds) (i := i) (by omega)
  have e2 := List.getElem?_eq_getElem (l := es) (i := i) (by omega)
  rw [zipD_at e1 e2] at h
  exact ⟨_, _, e1, e2, (Option.some.inj h).symm⟩
theorem di_zip {R : List D → (OH → Prop) → OH → Prop} {p tpos : Pos} {elts : List Expr} {kk : Nat} (hm : X.mg "zip" = none) (hg : Gl X "zip")
    (h : DA X B [a, b] δ O fun xs O2 => ∃ x y ds es, xs = [x, y] ∧ RdL O2 x ds ∧ RdL O2 y es ∧ R (zipD ds es) (fun O' => RdL O' x ds ∧ RdL O' y es) O2)
    (hs : starEach [a, b] X.env = (false, eval a X.env) :: starEach [b] X.env := by rfl) (hpl : (backTo pos (starEach [b] X.env)).any (·.1) = false := by rfl) : DI X B (.Tuple elts kk tpos) (.Call (.Name "zip" p) [a, b] [] pos) δ O R :=
  ⟨_, pi_zip hg hm selfA hs hpl, fun σ H I e1 h1 b1 W k => tA_mono (h σ H I e1 h1 b1) fun vv H2 ⟨I2, O2, xs, s2, h3, rr, x, y, ds, es, hx, hr, hr2, q⟩ => by
    subst hx
    obtain ⟨v, u, rfl, r, r2⟩ := reps2 rr
    obtain ⟨p, vs, hv, hq, _⟩ := hr.seq h3 r
    obtain ⟨p2, us, hu, hq2, _⟩ := hr2.seq h3 r2
    subst hv; subst hu
    have at_ : ∀ {I3 O3 H3}, Same I2 I3 → Hd X.K I3 O3 H3 → RdL O3 x ds ∧ RdL O3 y es → (∃ vs, SqL X.K H3 p vs ∧ Reps X.K I3 ds vs) ∧ ∃ us, SqL X.K H3 p2 us ∧ Reps X.K I3 es us := fun {I3 O3 H3} s h4 ⟨g1, g2⟩ => by
      obtain ⟨_, vs', e, h5, h6⟩ := g1.seq h4 (r.mono s)
      cases e
      obtain ⟨_, us', e, h7, h8⟩ := g2.seq h4 (r2.mono s)
      cases e
      exact ⟨⟨vs', h5, h6⟩, us', h7, h8⟩
    refine ⟨p, p2, vs, us, rfl, hq, hq2, k _ _ I2 O2 _ (fun O' => RdL O' x ds ∧ RdL O' y es) s2 h3 ⟨fun i I3 O3 H3 s h4 st hl => ?_, fun i I3 O3 H3 z H4 s h4 st hl hy => ?_, fun i I3 O3 H3 s h4 st hl => ?_⟩ q⟩
    · rw [zipD_len] at hl
      obtain ⟨⟨vs, h5, h6⟩, us, h7, h8⟩ := at_ s h4 st
      obtain ⟨v, hv, _⟩ := h6.get (List.getElem?_eq_getElem (i := i) (by omega))
      obtain ⟨u, hu, _⟩ := h8.get (List.getElem?_eq_getElem (i := i) (by omega))
      exact ⟨vs, us, v, u, h5, h7, hv, hu⟩
    · obtain ⟨⟨vs, h5, h6⟩, us, h7, h8⟩ := at_ s h4 st
      obtain ⟨T, v, u, ev, hT, eH, hv, hu⟩ := hy
      subst ev; subst eH
      obtain ⟨d, hd, rd⟩ := h6.getV (hv vs h5)
      obtain ⟨d', hd', rd'⟩ := h8.getV (hu us h7)
      obtain ⟨s5, h9⟩ := h4.newI (o := .tup [v, u]) hT
      exact ⟨_, .tup [d, d'], s5, h9, zipD_at hd hd', .tup (SqT.of upd_same) (.cons (rd.mono s5) (.cons (rd'.mono s5) .nil))⟩
    · rw [zipD_len] at hl
      obtain ⟨⟨vs, h5, h6⟩, us, h7, h8⟩ := at_ s h4 st
      refine ⟨vs, us, h5, h7, ?_⟩
      rw [← h6.len, ← h8.len]
      omega⟩
end
end DL

namespace DL
open PySem PySem.Spec PyProof.Rows L2
section
variable {M : Dis} {X : Cx} {B : Hp} {e a b c tg iter elt : Expr} {es ifs : List Expr} {st : Stmt} {rest body : List Stmt} {δ : EN} {O : OH} {Q R : D → OH → Prop} {E : ED} {pos : Pos} {K : PySem.W.Frag} {I J : Hp} {scope : Scope} {own : List (Str × Nat)} {vs : List Nat}

/-! ### comprehensions -/
abbrev Bk (X : Cx) (scope : Scope) (s : Shared) (H : Hp) (C : Addr) (cl : List (Str × Addr)) (fp : List Addr) : Cx := X.blk s H scope (compEnvC scope cl C X.env) fp
def tEb (X : Cx) (scope : Scope) (e : Expr) : TE := fun σ H Q => ∀ s H0 C cl fp, tE (Bk X scope s H0 C cl fp) e σ H Q
theorem selfEb {e : Expr} (s : Shared) (H : Hp) (C : Addr) (cl : List (Str × Addr)) (fp : List Addr) : PE (Bk X scope s H C cl fp) e (tEb X scope e) := ⟨fun pins s' _ _ _ I h => h s H C cl fp pins s' I⟩
theorem tEb_mono {e : Expr} {σ : L2.St} {H : Hp} {Q R : VK} (h : tEb X scope e σ H Q) (k : ∀ v H, Q v H → R v H) : tEb X scope e σ H R := fun s H0 C cl fp => tE_mono (h s H0 C cl fp) k
def tPb (X : Cx) (scope : Scope) (ifs : List Expr) : TT := fun σ H Q => ∀ s H0 C cl fp pins s', Inv (Bk X scope s H0 C cl fp) pins σ H s' →
  wpAny (model X.prog X.w) X.A (forIn ifs true fun c r => if r = true then do let ok ← isTrue c (Bk X scope s H0 C cl fp).env (eval c (Bk X scope s H0 C cl fp).env); pure (ForInStep.yield ok) else pure (ForInStep.yield r)) (TP (Bk X scope s H0 C cl fp) pins σ Q) (fun _ _ => False) s'
theorem selfPb (s : Shared) (H : Hp) (C : Addr) (cl : List (Str × Addr)) (fp : List Addr) : PTs (Bk X scope s H C cl fp) ifs (tPb X scope ifs) := ⟨fun pins s' _ _ _ I h => h s H C cl fp pins s' I⟩
theorem tPb_mono {σ : L2.St} {H : Hp} {Q R : Bool → Hp → Prop} (h : tPb X scope ifs σ H Q) (k : ∀ v H, Q v H → R v H) : tPb X scope ifs σ H R := fun s H0 C cl fp pins s' I =>
  thn (h s H0 C cl fp pins s' I) fun u t ⟨H', I', q⟩ => ⟨H', I', k _ _ q⟩
def tGb (X : Cx) (scope : Scope) (vs : List Nat) (t : Expr) : TG := fun v σ H Q => ∀ s H0 C cl fp pins s' u, Inv (Bk X scope s H0 C cl fp) pins σ H s' → RelV v u →
  wpAny (model X.prog X.w) X.A (assign t (Bk X scope s H0 C cl fp).env u) (fun _ t' => ∃ σ' H', Inv (Bk X scope s H0 C cl fp) pins σ' H' t' ∧ wipe σ' vs = wipe σ vs ∧ Q σ' H') (fun _ _ => False) s'
theorem selfGb {t : Expr} (s : Shared) (H : Hp) (C : Addr) (cl : List (Str × Addr)) (fp : List Addr) : PG (Bk X scope s H C cl fp) t (tGb X scope vs t) := ⟨fun pins s' σ H' v u Q I r h => thn (h s H C cl fp pins s' u I r) fun _ t ⟨σ', H', I', _, q⟩ => ⟨σ', H', I', q⟩⟩
theorem wipe_wipe {σ : L2.St} : ∀ {vs us : List Nat}, (∀ i ∈ us, i ∈ vs) → wipe (wipe σ us) vs = wipe σ vs := by
  intro vs us h
  apply List.ext_getElem?
  intro i
  by_cases hi : i ∈ vs
  · have key : ∀ (τ : L2.St) (l : List Nat), i ∈ l → (wipe τ l)[i]? = if i < τ.length then some none else none := by
      intro τ l
      induction l with
      | nil => intro h; cases h
      | cons v l ih =>
        intro h
        unfold wipe
        by_cases hv : v = i
        · subst hv
          by_cases hl : v < τ.length
          · rw [if_pos hl, List.getElem?_set_self (by rw [wipe_length]; exact hl)]
          · rw [if_neg hl, List.getElem?_eq_none (by rw [List.length_set, wipe_length]; omega)]
        · rw [List.getElem?_set_ne hv]
          exact ih ((List.mem_cons.mp h).resolve_left fun z => hv z.symm)
    rw [key _ _ hi, key _ _ hi, wipe_length]
  · rw [wipe_out hi, wipe_out hi, wipe_out fun z => hi (h i z)]
theorem wipe_set {σ : L2.St} {i : Nat} {x : Option V} (h : i ∈ vs) : wipe (σ.set i x) vs = wipe σ vs := by
  apply List.ext_getElem?
  intro j
  by_cases hj : j ∈ vs
  · have key : ∀ (τ : L2.St) (l : List Nat), j ∈ l → (wipe τ l)[j]? = if j < τ.length then some none else none := by
      intro τ l
      induction l with
      | nil => intro h; cases h
      | cons v l ih =>
        intro h
        unfold wipe
        by_cases hv : v = j
        · subst hv
          by_cases hl : v < τ.length
          · rw [if_pos hl, List.getElem?_set_self (by rw [wipe_length]; exact hl)]
          · rw [if_neg hl, List.getElem?_eq_none (by rw [List.length_set, wipe_length]; omega)]
        · rw [List.getElem?_set_ne hv]
          exact ih ((List.mem_cons.mp h).resolve_left fun z => hv z.symm)
    rw [key _ _ hj, key _ _ hj, List.length_set]
  · rw [wipe_out hj, wipe_out hj, List.getElem?_set_ne (fun (z : i = j) => hj (by rw [← z]; exact h))]
def wipeD (δ : EN) : List Nat → EN
  | [] => δ
  | v :: vs => (wipeD δ vs).set v none
theorem EOk.wipe {σ : L2.St} (h : EOk K I σ δ) : ∀ vs, EOk K I (L2.wipe σ vs) (wipeD δ vs)
  | [] => h
  | v :: vs => (EOk.wipe h vs).clr
def DEb (X : Cx) (B : Hp) (scope : Scope) (e : Expr) (δ : EN) (O : OH) (Q : D → OH → Prop) : Prop := ∀ s H0 C cl fp, DE (Bk X scope s H0 C cl fp) B e δ O Q
def DPb (X : Cx) (B : Hp) (scope : Scope) (ifs : List Expr) (δ : EN) (O : OH) (Q : Bool → OH → Prop) : Prop := ∀ σ H I, EOk X.K I σ δ → Hd X.K I O H → Same B I → tPb X scope ifs σ H (PostB X.K I Q)
theorem dp_nil {Q : Bool → OH → Prop} (q : Q true O) : DPb X B scope [] δ O Q := fun σ H I e1 h1 b1 s H0 C cl fp pins s' J => (pts_nil (X := Bk X scope s H0 C cl fp)).run pins s' σ H _ J ⟨I, O, Same.refl _, h1, q⟩
theorem dp_one {Q : Bool → OH → Prop} (h : ∀ s H0 C cl fp, DT (Bk X scope s H0 C cl fp) B c δ O Q) : DPb X B scope [c] δ O Q := fun σ H I e1 h1 b1 s H0 C cl fp pins s' J =>
  (pts_one (X := Bk X scope s H0 C cl fp) selfT).run pins s' σ H _ J (h s H0 C cl fp σ H I e1 h1 b1)
def DGb (X : Cx) (B : Hp) (scope : Scope) (vs : List Nat) (t : Expr) (d : D) (δ : EN) (O : OH) (Q : EN → OH → Prop) : Prop := ∀ v σ H I, EOk X.K I σ δ → Hd X.K I O H → Same B I → Rep X.K I d v → tGb X scope vs t v σ H (PostS X.K I Q)
inductive IxOf : List Str → Str → Nat → Prop
  | here {x N} : IxOf (x :: N) x 0
  | there {x y N i} : IxOf N x i → IxOf (y :: N) x (i + 1)
theorem IxOf.get {N : List Str} {x : Str} {i : Nat} (h : IxOf N x i) : N[i]? = some x := by
  induction h with
  | here => rfl
  | there _ ih => simpa using ih
/-- the scope's own names and their places -/
inductive OwnIs (N : List Str) : List (Str × NameKind) → List (Str × Nat) → Prop
  | nil : OwnIs N [] []
  | own {x i r o} : IxOf N x i → OwnIs N r o → OwnIs N ((x, .local) :: r) ((x, i) :: o)
  | skip {x k r o} : OwnIs N r o → OwnIs N ((x, k) :: r) o
theorem dgb_name {N : List Str} {x : Str} {d : D} {δ' : EN} {i : Nat} {Q : EN → OH → Prop} (hN : X.N = N) (nd : X.N.Nodup) (hi : IxOf N x i) (hv : i ∈ vs) (hs : δ.set i (some d) = δ') (q : Q δ' O) (hx : ∀ s H0 C cl fp, Loc (Bk X scope s H0 C cl fp).env.scope x)
    (hf : ∀ s H0 C cl fp, (Bk X scope s H0 C cl fp).fn x = true ∨ (Bk X scope s H0 C cl fp).env.scope.names.lookup x = some .local) : DGb X B scope vs (.Name x pos) d δ O Q := by
  intro v σ H I e1 h1 b1 r s H0 C cl fp pins s' u J rr
  refine thn ((pg_name (X := Bk X scope s H0 C cl fp) (i := i) nd (by show X.N[i]? = _; rw [hN]; exact hi.get) (hx s H0 C cl fp) (hf s H0 C cl fp)).run pins s' σ H v u (fun σ' H' => σ' = σ.set i (some v) ∧ H' = H) J rr ⟨rfl, rfl⟩) fun _ t ⟨σ', H', I', e, eH⟩ => ⟨σ', H', I', ?_⟩
  subst e; subst eH
  have e2 := e1.set (i := i) r
  rw [hs] at e2
  exact ⟨wipe_set hv, .of h1 (Same.refl _) e2 q⟩
def tGsb (X : Cx) (scope : Scope) (vs : List Nat) (ts : List Expr) : TGs := fun xs σ H Q => ∀ s H0 C cl fp pins s' us, Inv (Bk X scope s H0 C cl fp) pins σ H s' → Vals xs us →
  wpAny (model X.prog X.w) X.A (assignInOrder ((assignEach ts (Bk X scope s H0 C cl fp).env).map (·.2)) us) (fun _ t' => ∃ σ' H', Inv (Bk X scope s H0 C cl fp) pins σ' H' t' ∧ wipe σ' vs = wipe σ vs ∧ Q σ' H') (fun _ _ => False) s'
def DGsb (X : Cx) (B : Hp) (scope : Scope) (vs : List Nat) (ts : List Expr) (ds : List D) (δ : EN) (O : OH) (Q : EN → OH → Prop) : Prop := ∀ xs σ H I, EOk X.K I σ δ → Hd X.K I O H → Same B I → Reps X.K I ds xs → tGsb X scope vs ts xs σ H (PostS X.K I Q)
/-- a target that keeps to vs, at σ₀ -/
def tGk (X : Cx) (scope : Scope) (vs : List Nat) (σ₀ : L2.St) (t : TG) : TG := fun v σ H Q => wipe σ vs = wipe σ₀ vs ∧ t v σ H fun σ' H' => Q σ' H'
theorem dgsb_nil {Q : EN → OH → Prop} (q : Q δ O) : DGsb X B scope vs [] [] δ O Q := by
  intro xs σ H I e1 h1 b1 r s H0 C cl fp pins s' us J rr
  cases r
  exact thn ((pgs_nil (X := Bk X scope s H0 C cl fp)).run pins s' σ H [] us (fun σ' H' => σ' = σ ∧ H' = H) J rr ⟨rfl, rfl, rfl⟩) fun _ t ⟨σ', H', I', e, eH⟩ => ⟨σ', H', I', by subst e; rfl, by subst e; subst eH; exact .of h1 (Same.refl _) e1 q⟩
theorem dgsb_cons {t : Expr} {ts : List Expr} {d : D} {ds : List D} {Q : EN → OH → Prop} (h : DGb X B scope vs t d δ O fun δ' O' => DGsb X B scope vs ts ds δ' O' Q)
    (hs : ∀ s H0 C cl fp, (assignEach (t :: ts) (Bk X scope s H0 C cl fp).env).map (·.2) = assign t (Bk X scope s H0 C cl fp).env :: (assignEach ts (Bk X scope s H0 C cl fp).env).map (·.2) := by intros; rfl) : DGsb X B scope vs (t :: ts) (d :: ds) δ O Q := by
  intro xs σ H I e1 h1 b1 r s H0 C cl fp pins s' us J rr
  cases r with
  | @cons _ v _ vs' r1 r2 =>
    have P1 : PG (Bk X scope s H0 C cl fp) t (fun v' σ' H' Q' => ∀ pins s' u, Inv (Bk X scope s H0 C cl fp) pins σ' H' s' → RelV v' u → wpAny (model X.prog X.w) X.A (assign t (Bk X scope s H0 C cl fp).env u) (fun _ t' => ∃ σ2 H2, Inv (Bk X scope s H0 C cl fp) pins σ2 H2 t' ∧ Q' σ2 H2) (fun _ _ => False) s') := ⟨fun pins s σ H v u Q I r h => h pins s u I r⟩
    have P2 : PGs (Bk X scope s H0 C cl fp) ts (fun xs' σ' H' Q' => ∀ pins s' us, Inv (Bk X scope s H0 C cl fp) pins σ' H' s' → Vals xs' us → wpAny (model X.prog X.w) X.A (assignInOrder ((assignEach ts (Bk X scope s H0 C cl fp).env).map (·.2)) us) (fun _ t' => ∃ σ2 H2, Inv (Bk X scope s H0 C cl fp) pins σ2 H2 t' ∧ Q' σ2 H2) (fun _ _ => False) s') := ⟨fun pins s σ H v u Q I r h => h pins s u I r⟩
    refine (pgs_cons P1 P2 (hs s H0 C cl fp)).run pins s' σ H (v :: vs') us _ J rr ⟨v, vs', rfl, fun pins s2 u J2 ru => ?_⟩
    refine thn (h v σ H I e1 h1 b1 r1 s H0 C cl fp pins s2 u J2 ru) fun _ t2 ⟨σ2, H2, I2, w2, ⟨J3, O3, δ3, s3, h3, e3, q3⟩⟩ => ⟨σ2, H2, I2, fun pins s4 us J4 rus => ?_⟩
    refine thn (q3 vs' σ2 H2 J3 e3 h3 (b1.trans s3) (r2.mono s3) s H0 C cl fp pins s4 us J4 rus) fun _ t5 ⟨σ5, H5, I5, w5, p5⟩ => ⟨σ5, H5, I5, w5.trans w2, p5.mono s3 fun _ _ q => q⟩
theorem dgb_tup {ts : List Expr} {k : Nat} {ds : List D} {Q : EN → OH → Prop} (hc : X.calm = true) (h : DGsb X B scope vs ts ds δ O Q) (hl : ds.length = ts.length)
    (hn : ∀ s H0 C cl fp, (assignEach ts (Bk X scope s H0 C cl fp).env).length = ts.length := by intros; rfl) (hst : ∀ s H0 C cl fp, (assignEach ts (Bk X scope s H0 C cl fp).env).findIdx? (·.1) = none := by intros; rfl) : DGb X B scope vs (.Tuple ts k pos) (.tup ds) δ O Q := by
  intro v σ H I e1 h1 b1 r s H0 C cl fp pins s' u J rr
  have P2 : PGs (Bk X scope s H0 C cl fp) ts (fun xs' σ' H' Q' => ∀ pins s' us, Inv (Bk X scope s H0 C cl fp) pins σ' H' s' → Vals xs' us → wpAny (model X.prog X.w) X.A (assignInOrder ((assignEach ts (Bk X scope s H0 C cl fp).env).map (·.2)) us) (fun _ t' => ∃ σ2 H2, Inv (Bk X scope s H0 C cl fp) pins σ2 H2 t' ∧ Q' σ2 H2) (fun _ _ => False) s') := ⟨fun pins s σ H v u Q I r h => h pins s u I r⟩
  obtain ⟨p, xs, rfl, h2, h3⟩ := tup_seq h1 r
  refine (pg_tup (X := Bk X scope s H0 C cl fp) hc P2 (hn s H0 C cl fp) (hst s H0 C cl fp)).run pins s' σ H _ u _ J rr ⟨p, xs, rfl, h2, by rw [← h3.len]; exact hl, fun pins s4 us J4 rus => ?_⟩
  exact h xs σ H I e1 h1 b1 h3 s H0 C cl fp pins s4 us J4 rus
theorem lc_run (h : DI X B tg iter δ O fun items Stn O1 => ∀ l, O1 l = none → ∃ P : Nat → List D → OH → Prop, P 0 [] (updO O1 l (.lst [])) ∧ (∀ i acc O', P i acc O' → Stn O') ∧
      (∀ i x acc O', items[i]? = some x → P i acc O' → DGb X B scope vs tg x (wipeD δ vs) O' fun δ2 O2 => DPb X B scope ifs δ2 O2 fun k O3 =>
        (k = true → DEb X B scope elt δ2 O3 fun d O4 => O4 l = some (.lst acc) ∧ acc.length < sizeLine ∧ P (i + 1) (acc ++ [d]) (updO O4 l (.lst (acc ++ [d])))) ∧ (k = false → P (i + 1) acc O3)) ∧
      ∀ acc O', P items.length acc O' → Q (.ptr l) O') :
    ∃ wi, PI X tg iter wi ∧ ∀ σ H I, EOk X.K I σ δ → Hd X.K I O H → Same B I → ∀ W : VK, (∀ v H, Post X.K I Q v H → W v H) → tLc wi (tGb X scope vs tg) (tPb X scope ifs) (tEb X scope elt) vs σ H W := by
  obtain ⟨wi, hi, h⟩ := h
  refine ⟨wi, hi, fun σ H I e1 h1 b1 W k => ?_⟩
  refine h σ H I e1 h1 b1 _ fun J H1 I1 O1 items Stn s1 h2 it hP l hl => ?_
  obtain ⟨n1, n2⟩ := h2.none_of hl
  obtain ⟨P, p0, pst, pturn, pend⟩ := hP l n2
  obtain ⟨_, h3⟩ := h2.newO (o := .lst []) (c := .lst []) hl ⟨[], rfl, .nil⟩
  refine ⟨fun i m H' => ∃ I2 O2 acc, Same I1 I2 ∧ Hd X.K I2 O2 H' ∧ P i acc O2 ∧ m = items.length - i ∧ i ≤ items.length, ⟨items.length, I1, _, [], Same.refl _, h3, p0, rfl, Nat.zero_le _⟩, ?_⟩
  rintro i m H' ⟨I2, O2, acc, s2, h4, p, rfl, hi⟩
  by_cases hlt : i < items.length
  · refine .inr ⟨it.go i I2 O2 H' s2 h4 (pst _ _ _ p) hlt, fun H3 => ∃ I3 O3 acc3, Same I1 I3 ∧ Hd X.K I3 O3 H3 ∧ P (i + 1) acc3 O3, ?_, ?_⟩
    · rintro H3 ⟨I3, O3, acc3, s3, h5, p3⟩
      exact ⟨items.length - (i + 1), by omega, I3, O3, acc3, s3, h5, p3, rfl, hlt⟩
    · intro x H4 y
      obtain ⟨I4, d, s4, h5, hd, r⟩ := it.yld i I2 O2 H' x H4 s2 h4 (pst _ _ _ p) hlt y
      have t4 : Same I I4 := (s1.trans s2).trans s4
      intro sb Hb Cb cl fp pins t u Jb ru
      refine thn (pturn i d acc O2 hd p x (wipe σ vs) H4 I4 ((e1.mono t4).wipe vs) h5 (b1.trans t4) r sb Hb Cb cl fp pins t u Jb ru) fun _ t' ⟨σ5, H5, I5, w5, J5, O5, δ5, s5, h6, e5, q⟩ => ⟨σ5, H5, I5, w5, ?_⟩
      have ww : wipe (wipe σ vs) vs = wipe σ vs := wipe_wipe fun _ z => z
      refine ⟨w5.trans ww, ?_⟩
      have t5 : Same I J5 := t4.trans s5
      refine tPb_mono (q σ5 H5 J5 e5 h6 (b1.trans t5)) fun kk H6 ⟨J6, O6, s6, h7, qt, qf⟩ => ?_
      cases kk with
      | false => exact iteF ⟨J6, O6, acc, ((s2.trans s4).trans s5).trans s6, h7, qf rfl⟩
      | true =>
        refine iteT (fun s0 H0 C0 cl0 fp0 => tE_mono (qt rfl s0 H0 C0 cl0 fp0 σ5 H6 J6 (e5.mono s6) h7 (b1.trans (t5.trans s6))) fun v H7 ⟨J7, O7, d7, s7, h8, r7, hl7, hz, p7⟩ => ?_)
        obtain ⟨_, us, h9, h10⟩ := h8.cel _ _ hl7
        exact ⟨us, h9, by rw [← h10.len]; exact hz, J7, _, acc ++ [d7], (((s2.trans s4).trans s5).trans s6).trans s7, h8.wl hl7 (h10.append (.cons r7 .nil)), p7⟩
  · have ee : i = items.length := by omega
    subst ee
    exact .inl ⟨it.stop _ I2 O2 H' s2 h4 (pst _ _ _ p) (Nat.le_refl _), k _ _ (.of h4 (s1.trans s2) .ptr (pend _ _ p))⟩
/-- [elt for tg in iter if ..] as a value -/
theorem de_lc (hc : X.calm = true) (nd : X.N.Nodup) (hv : own.map (·.2) = vs) (ok : BlkOk X.N X.env.scope scope own)
    (h : DI X B tg iter δ O fun items Stn O1 => ∀ l, O1 l = none → ∃ P : Nat → List D → OH → Prop, P 0 [] (updO O1 l (.lst [])) ∧ (∀ i acc O', P i acc O' → Stn O') ∧
      (∀ i x acc O', items[i]? = some x → P i acc O' → DGb X B scope vs tg x (wipeD δ vs) O' fun δ2 O2 => DPb X B scope ifs δ2 O2 fun k O3 =>
        (k = true → DEb X B scope elt δ2 O3 fun d O4 => O4 l = some (.lst acc) ∧ acc.length < sizeLine ∧ P (i + 1) (acc ++ [d]) (updO O4 l (.lst (acc ++ [d])))) ∧ (k = false → P (i + 1) acc O3)) ∧
      ∀ acc O', P items.length acc O' → Q (.ptr l) O') (hs : ∀ x, foldedSetIterable iter X.env x = pure x := by intro _; rfl) : DE X B (.ListComp elt [⟨tg, iter, ifs, 0⟩] scope pos) δ O Q := by
  subst hv
  obtain ⟨wi, hi, h⟩ := lc_run h
  exact DE.of (pe_lc hc nd hi ok selfGb selfPb selfEb hs) fun σ H I e1 h1 b1 => h σ H I e1 h1 b1 _ fun _ _ p => p
/-- y = [elt for ..] -/
theorem ds_setLc {N : List Str} {y : Str} {py spos : Pos} (hc : X.calm = true) (hN : X.N = N) (nd : X.N.Nodup) (hv : own.map (·.2) = vs) (ok : BlkOk X.N X.env.scope scope own) (hy : X.env.scope.names.lookup y = some .local)
    (hsw : swapsWith (.ListComp elt [⟨tg, iter, ifs, 0⟩] scope pos) (some (.Name y py)) spos.line X.env = pure true) {i : Nat} (hix : IxOf N y i)
    (h : DI X B tg iter δ O fun items Stn O1 => ∀ l, O1 l = none → ∃ P : Nat → List D → OH → Prop, P 0 [] (updO O1 l (.lst [])) ∧ (∀ i acc O', P i acc O' → Stn O') ∧
      (∀ i x acc O', items[i]? = some x → P i acc O' → DGb X B scope vs tg x (wipeD δ vs) O' fun δ2 O2 => DPb X B scope ifs δ2 O2 fun k O3 =>
        (k = true → DEb X B scope elt δ2 O3 fun d O4 => O4 l = some (.lst acc) ∧ acc.length < sizeLine ∧ P (i + 1) (acc ++ [d]) (updO O4 l (.lst (acc ++ [d])))) ∧ (k = false → P (i + 1) acc O3)) ∧
      ∀ acc O', P items.length acc O' → E.nx (δ.set i (some (.ptr l))) O') (hs : ∀ x, foldedSetIterable iter X.env x = pure x := by intro _; rfl) :
    DS X B (.Assign [.Name y py] (.ListComp elt [⟨tg, iter, ifs, 0⟩] scope pos) spos) E δ O := by
  subst hv
  obtain ⟨wi, hi, h⟩ := lc_run (Q := fun d O' => E.nx (δ.set i (some d)) O') h
  refine DS.of (ps_setLc (i := i) hc nd (by rw [hN]; exact hix.get) hy hsw hi ok selfGb selfPb selfEb hs) fun σ H I e1 h1 b1 => h σ H I e1 h1 b1 _ fun v H' ⟨J, O', d, s, h2, r, q⟩ => ?_
  exact .of h2 s ((e1.mono s).set r) q

/-! ### reversed(range(n)) -/
def downto (n : Nat) : List D := (List.range n).map fun (i : Nat) => D.int ((n : Int) - 1 - (i : Int))
@[simp] theorem downto_len {n : Nat} : (downto n).length = n := by simp [downto]
theorem downto_at {n i : Nat} (hl : i < n) : (downto n)[i]? = some (.int ((n : Int) - 1 - (i : Int))) := by
  unfold downto
  rw [List.getElem?_map, List.getElem?_range hl]
  rfl

/-! ### a def by its body -/
def startD (N : List Str) (ds : List D) : EN := ds.map some ++ List.replicate (N.length - ds.length) none
theorem start_ok {N : List Str} {ds : List D} {vs : List V} (r : Reps K I ds vs) : EOk K I (L2.start N vs) (startD N ds) := by
  unfold L2.start startD
  refine ⟨by simp [r.len], fun i d h => ?_⟩
  by_cases hi : i < ds.length
  · rw [List.getElem?_append_left (by simpa using hi), List.getElem?_map] at h
    cases e : ds[i]? with
    | none => rw [e] at h; cases h
    | some d' =>
      rw [e] at h
      cases h
      obtain ⟨v, hv, rv⟩ := r.get e
      refine ⟨v, ?_, rv⟩
      rw [List.getElem?_append_left (by rw [List.length_map, ← r.len]; exact hi), List.getElem?_map, hv]
      rfl
  · rw [List.getElem?_append_right (by simpa using hi), List.getElem?_replicate] at h
    split at h <;> cases h
/-- the context of a def's body -/
abbrev cxD (M : Dis) (P : Program) (w : World) (K : PySem.W.Frag) (mg : Str → Option Value) (base : Heap) (N : List Str) (qual : Str) (st : Stmt) (f : Addr) (cdv : Value) (A : Around) (outer : List Env) (s : Shared) (H : Hp) (E : XK) : Cx :=
  cxOf (M.cx P w) P w K mg base N qual (defScope st) f cdv A outer s H E
theorem fn_okD {P : Program} {w : World} {mg : Str → Option Value} {base : Heap} {x qual : Str} {st : Stmt} {f : Addr} {fd : FuncData} {N ps : List Str} {k : Nat} {sp : SpD} (F : Fun K x qual st f fd) (S : FnScope N ps (defScope st))
    (len : ∀ ds O Q E, sp ds O Q E → ds.length = ps.length)
    (hb : ∀ (cdv : Value) (A : Around) (outer : List Env) (s : Shared) (H : Hp) (Ex : XK) (B : Hp) (W : Addr → OH → Prop), Room k (cxD M P w K mg base N qual st f cdv A outer s H Ex).A →
      M.takes (cxD M P w K mg base N qual st f cdv A outer s H Ex) (wx K B fun C _ O => W C O) → ∀ ds O Q, sp ds O Q W →
      DSs (cxD M P w K mg base N qual st f cdv A outer s H Ex) B (defBody st) ⟨fun _ O1 => ∃ O2, SubO O2 O1 ∧ Q .non O2, Q, fun _ _ => False, fun _ _ => False⟩ (startD N ds) O) :
    FnOk P w K mg base (M.cx P w) (k + 1) f fd ps (lift K sp) := by
  obtain ⟨oc, od, kV, doc, pm, an, cdv, ct, osl, rfl, lk, hcd⟩ := F.ex
  refine fn_of lk hcd S (fun vs H Q E h => ?_) fun A outer s H vs Q Ex hr h => ?_
  · obtain ⟨I, O, ds, Q0, E0, h1, r, hs, _⟩ := h
    rw [← r.len]
    exact len _ _ _ _ hs
  · obtain ⟨I, O, ds, Q0, E0, h1, r, hs, hq, he⟩ := h
    have tk : M.takes (cxD M P w K mg base N qual st f cdv A outer s H Ex) (wx K I fun C _ O => E0 C O) := M.imp (M.entry (E := Ex) rfl rfl rfl rfl) fun cls d σ H' ⟨C, J, O', δ, e1, e2, s1, h2, _, q⟩ => by
      rw [e1, e2]
      exact he C O' J H' q s1 h2
    refine ⟨_, selfSs, ?_⟩
    refine tSs_mono (hb cdv A outer s H Ex I E0 hr tk ds O Q0 hs (L2.start N vs) H I (start_ok r) h1 (Same.refl _)) ⟨fun σ H' ⟨J, O', δ', s1, h2, _, O2, w2, q⟩ => ?_, fun v H' ⟨J, O', d, s1, h2, r2, q⟩ => ?_, fun σ H' ⟨J, O', δ', s1, h2, _, q⟩ => q.elim, fun σ H' ⟨J, O', δ', s1, h2, _, q⟩ => q.elim⟩
    · exact hq .non O2 .non J H' q s1 (h2.weak w2) .non
    · exact hq d O' v J H' q s1 h2 r2

/-! ### raise -/
structure ErrC (K : PySem.W.Frag) (mg : Str → Option Value) (x : Str) (C : Addr) : Prop where
  g : mg x = some (.ref C)
  ex : PySem.W.excIn K C vErr "ValueError.__new__" = true
  kp : PySem.W.keepIn K (.ref C) = true
  sb : PySem.W.subIn K (.ref C) (.type "BaseException") = some true
  ty : PySem.W.typeIn K (.ref C) = some (.type "type")
theorem ds_raise {x m : Str} {C : Addr} {W : Addr → EN → OH → Prop} {j : Nat} {p p2 pos2 : Pos} (T : ErrC X.K X.mg x C) (tk : M.takes X (wx X.K B W)) (hc : X.calm = true) (hg : Gl X x) (q : ∃ O2, SubO O2 O ∧ W C δ O2) (hd : (x == ("__debug__" : Str)) = false := by decide) :
    DS X B (.Raise (some (.Call (.Name x p) [.Constant (.str m) j p2] [] pos)) none pos2) E δ O :=
  DS.of (M.raise hc tk T.ex T.g T.kp (raises_own T.sb T.ty) hg hd) fun σ H I e1 h1 b1 => by
    obtain ⟨O2, w, q⟩ := q
    exact ⟨C, I, O2, δ, rfl, rfl, b1, h1.weak w, e1, q⟩
end
end DL

namespace DL
open PySem PySem.Spec PyProof.Rows L2
/-! ### answers to branches -/
theorem brT {A B : Prop} (h : A) : (true = true → A) ∧ (true = false → B) := ⟨fun _ => h, (fun z => Bool.noConfusion z)⟩
theorem brF {A B : Prop} (h : B) : (false = true → A) ∧ (false = false → B) := ⟨(fun z => Bool.noConfusion z), fun _ => h⟩
theorem brTk {k : Bool} {A B : Prop} (e : k = true) (h : A) : (k = true → A) ∧ (k = false → B) := ⟨fun _ => h, fun z => (by rw [e] at z; exact Bool.noConfusion z)⟩
theorem brFk {k : Bool} {A B : Prop} (e : k = false) (h : B) : (k = true → A) ∧ (k = false → B) := ⟨fun z => (by rw [e] at z; exact Bool.noConfusion z), fun _ => h⟩
theorem brD {p : Prop} [Decidable p] {A B : Prop} (h : p) (a : A) : (decide p = true → A) ∧ (decide p = false → B) := brTk (decide_eq_true h) a
theorem brN {p : Prop} [Decidable p] {A B : Prop} (h : ¬ p) (b : B) : (decide p = true → A) ∧ (decide p = false → B) := brFk (decide_eq_false h) b
theorem brS {p : Prop} [Decidable p] {A B : Prop} (a : p → A) (b : ¬ p → B) : (decide p = true → A) ∧ (decide p = false → B) := ⟨fun h => a (of_decide_eq_true h), fun h => b (of_decide_eq_false h)⟩
theorem brND {p : Prop} [Decidable p] {A B : Prop} (h : p) (b : B) : ((!decide p) = true → A) ∧ ((!decide p) = false → B) := brFk (by rw [decide_eq_true h]; rfl) b
theorem brNN {p : Prop} [Decidable p] {A B : Prop} (h : ¬ p) (a : A) : ((!decide p) = true → A) ∧ ((!decide p) = false → B) := brTk (by rw [decide_eq_false h]; rfl) a
theorem brNS {p : Prop} [Decidable p] {A B : Prop} (a : ¬ p → A) (b : p → B) : ((!decide p) = true → A) ∧ ((!decide p) = false → B) :=
  ⟨fun h => a fun hp => (by rw [decide_eq_true hp] at h; exact Bool.noConfusion h), fun h => b (Decidable.byContradiction fun hp => (by rw [decide_eq_false hp] at h; exact Bool.noConfusion h))⟩
theorem brNT {A B : Prop} (h : B) : ((!true) = true → A) ∧ ((!true) = false → B) := brF h
theorem brNF {A B : Prop} (h : A) : ((!false) = true → A) ∧ ((!false) = false → B) := brT h
/-! ### heaps of cells -/
theorem updO_get {O : OH} {a b : Addr} {c d : Cell} (h : b ≠ a) (k : O b = some d) : updO O a c b = some d := by rw [updO_ne h]; exact k
theorem ne_ofO2 {O : OH} {a b : Addr} {c : Cell} (h' : O b = none) (h : O a = some c) : a ≠ b := ne_ofO h h'
theorem free_of {O : OH} {a b : Addr} {c : Cell} (h : updO O a c b = none) : O b = none := by
  unfold updO at h
  split at h
  · cases h
  · exact h
/-! ### the names of builtins that the program does not change -/
structure Bi (mg : Str → Option Value) : Prop where
  len : mg "len" = none
  range : mg "range" = none
  min : mg "min" = none
  max : mg "max" = none
  int : mg "int" = none
  str : mg "str" = none
  list : mg "list" = none
  tuple : mg "tuple" = none
  isinstance : mg "isinstance" = none
  zip : mg "zip" = none
  enumerate : mg "enumerate" = none
  bool : mg "bool" = none
  abs : mg "abs" = none
  sum : mg "sum" = none
  sorted : mg "sorted" = none
  reversed : mg "reversed" = none
  iter : mg "iter" = none
  set : mg "set" = none
  dict : mg "dict" = none
  valueError : mg "ValueError" = none
/-! ### the builtins -/
theorem bt_int : bootBuiltins (Str.ofString "int") = some (.type "int") := by decide +kernel
theorem bt_str : bootBuiltins (Str.ofString "str") = some (.type "str") := by decide +kernel
theorem bt_list : bootBuiltins (Str.ofString "list") = some (.type "list") := by decide +kernel
theorem bt_tuple : bootBuiltins (Str.ofString "tuple") = some (.type "tuple") := by decide +kernel
theorem bt_bool : bootBuiltins (Str.ofString "bool") = some (.type "bool") := by decide +kernel
theorem bt_set : bootBuiltins (Str.ofString "set") = some (.type "set") := by decide +kernel
theorem bt_dict : bootBuiltins (Str.ofString "dict") = some (.type "dict") := by decide +kernel
theorem bt_range : bootBuiltins (Str.ofString "range") = some (.type "range") := by decide +kernel
theorem bt_zip : bootBuiltins (Str.ofString "zip") = some (.type "zip") := by decide +kernel
theorem bt_enumerate : bootBuiltins (Str.ofString "enumerate") = some (.type "enumerate") := by decide +kernel
theorem bt_reversed : bootBuiltins (Str.ofString "reversed") = some (.type "reversed") := by decide +kernel
theorem bt_len : bootBuiltins (Str.ofString "len") = some (.builtin "len") := by decide +kernel
theorem bt_min : bootBuiltins (Str.ofString "min") = some (.builtin "min") := by decide +kernel
theorem bt_max : bootBuiltins (Str.ofString "max") = some (.builtin "max") := by decide +kernel
theorem bt_abs : bootBuiltins (Str.ofString "abs") = some (.builtin "abs") := by decide +kernel
theorem bt_sum : bootBuiltins (Str.ofString "sum") = some (.builtin "sum") := by decide +kernel
theorem bt_sorted : bootBuiltins (Str.ofString "sorted") = some (.builtin "sorted") := by decide +kernel
theorem bt_isinstance : bootBuiltins (Str.ofString "isinstance") = some (.builtin "isinstance") := by decide +kernel
theorem bt_iter : bootBuiltins (Str.ofString "iter") = some (.builtin "iter") := by decide +kernel
end DL

namespace DL
open PySem PySem.Spec PyProof.Rows L2
theorem cdivB {i j : Int} (h : 0 < j) (h2 : j < 2 ^ 200) : CDivW i j :=
  ⟨h, PySem.Flt.log2_lt_of (by decide) (Nat.lt_of_lt_of_le (show j.natAbs < 2 ^ 200 by omega) (Nat.pow_le_pow_right (by decide) (by decide)))⟩
theorem cmulB {i j : Int} (h : -(2 ^ 250) < i ∧ i < 2 ^ 250) (h2 : -(2 ^ 250) < j ∧ j < 2 ^ 250) : CMulW i j :=
  wide_mul (a := 250) (b := 250) (by omega) (by omega) (by decide) (by decide) (by decide)
/-- a wide one by a small one -/
theorem cmulN {i j : Int} (n : Nat) (h0 : 0 ≤ i) (h : i < 10 ^ n) (h2 : 0 ≤ j ∧ j < 2 ^ 30) (hn : n < 1000) : CMulW i j := by
  refine wide_mul (a := 4 * n + 1) (b := 30) (Nat.lt_of_lt_of_le (show i.natAbs < 10 ^ n from ?_) ?_) (by omega) (by omega) (by decide) (by omega)
  · have : ((10 : Int) ^ n) = ((10 ^ n : Nat) : Int) := by simp
    omega
  · exact Nat.le_trans (Nat.pow_le_pow_left (show 10 ≤ 2 ^ 4 by decide) n) (by rw [← Nat.pow_mul]; exact Nat.pow_le_pow_right (by decide) (by omega))
theorem sretI {O : OH} {Q : OH → Prop} (h : Q O) : ∃ O2, SubO O2 O ∧ Q O2 := ⟨O, SubO.refl, h⟩
end DL

/-! list(zip(a, b)): a zip whose tuples are kept. -/
namespace DL
open PySem PySem.Spec PyProof.Rows L2
/-- a zip object, its two marks told -/
abbrev ZipAt (h : Heap) (z TI TO : Addr) (f0 : Value) (b : Bool) : Prop :=
  h.get? z = some { cls := .type "zip", dict := none, data := .fields #[f0, .bool b, .bool false, .ref TI, .ref TO], slots := #[] }
section
variable {prog : Program} {w : World} {A : Around} {E : Value → Shared → Prop} {s : Shared}
theorem alive_at {a : Addr} {Q : Option Obj → Shared → Prop} (h : Q (s.heap.get? a) s) : wpAny (model prog w) A (loadIfAlive a) Q E s := fun Γ p hΓ => by
  unfold loadIfAlive
  simp only [Sem.wp]
  exact h
/-- the tuple that was handed out is still held: it is not free -/
theorem held_not_free {z TI TO T : Addr} {b : Bool} {o : Obj} {Q : Bool → Shared → Prop} (hz : ZipAt s.heap z TI TO (rawInt T) b) (hT : s.heap.get? T = some o)
    (q : ∀ h', ZipAt h' z TI TO (rawInt T) true → Heap.SameBut z s.heap h' → Q false { s with heap := h' }) :
    wpAny (model prog w) A (Builtin.SmallTypes.ownedTupleIsFree (.ref z)) Q E s := by
  unfold Builtin.SmallTypes.ownedTupleIsFree
  refine wpAny_bind (wpAny_field hz rfl (x := rawInt T) rfl ?_)
  show wpAny _ _ (loadIfAlive (Int.toNat (T : Int)) >>= _) _ _ _
  refine wpAny_bind (alive_at ?_)
  rw [Int.toNat_natCast, hT]
  simp only [Option.isNone_some, Bool.false_eq_true, if_false]
  refine wpAny_bind (wpAny_field hz rfl (x := .bool b) rfl ?_)
  cases b with
  | false =>
    rw [if_pos (show ((Value.bool false) != Value.bool true) = true from rfl)]
    refine wpAny_bind (wpAny_setField_rec hz (by simp) fun h' hz' hs => ?_)
    exact wpAny_pure (q h' hz' hs)
  | true =>
    rw [if_neg (show ¬ ((Value.bool true) != Value.bool true) = true from by decide)]
    exact wpAny_pure (q _ hz ⟨rfl, fun _ _ => rfl⟩)
/-- the next pair, the one before it still held -/
theorem zip_more {z TI TO i1 i2 l1 l2 T : Addr} {b : Bool} {o : Obj} {k1 k2 : Nat} {xs ys : Array Value} {x y : Value} {Q : Value → Shared → Prop} (D : ZipApart z TI TO i1 i2 l1 l2)
    (hz : ZipAt s.heap z TI TO (rawInt T) b) (hT : s.heap.get? T = some o) (hTI : IsPair s.heap TI (.ref i1) (.ref i2))
    (h1 : s.heap.IsListIter i1 l1 k1) (h2 : s.heap.IsListIter i2 l2 k2) (hl1 : s.heap.IsList l1 xs) (hl2 : s.heap.IsList l2 ys) (hx : xs[k1]? = some x) (hy : ys[k2]? = some y)
    (hQ : ∀ h', ZipAt h' z TI TO (rawInt T) true → h'.IsListIter i1 l1 (k1 + 1) → h'.IsListIter i2 l2 (k2 + 1) → IsPair h' s.heap.objs.size x y → h'.objs.size = s.heap.objs.size + 1 →
      (∀ c o, c ≠ z → c ≠ i1 → c ≠ i2 → s.heap.get? c = some o → h'.get? c = some o) → Q (.ref s.heap.objs.size) { s with heap := h' }) :
    wpAny (model prog w) A (Builtin.«zip.__next__» ⟨[.ref z], []⟩) (fun fin s' => ∃ v, fin = .done (.ret v) ∧ Q v s') E s := by
  show wpAny _ _ (field (.ref z) 2 >>= _) _ _ _
  refine wpAny_bind (wpAny_field hz rfl (x := .bool false) rfl ?_)
  show wpAny _ _ (field (.ref z) 3 >>= _) _ _ _
  refine wpAny_bind (wpAny_field hz rfl (x := .ref TI) rfl ?_)
  refine wpAny_bind (wpAny_seqItems hTI rfl ?_)
  show wpAny _ _ (Builtin.SmallTypes.ownedTupleIsFree (.ref z) >>= _) _ _ _
  refine wpAny_bind (held_not_free hz hT fun h₁ hz₁ hs₁ => ?_)
  simp only [Bool.false_eq_true, if_false]
  refine wpAny_bind ?_
  rw [← Array.forIn_toList]
  simp only [List.forIn_cons, List.forIn_nil]
  refine wpAny_bind (wpAny_bind (wpAny_holding ?_))
  show wpAny _ _ (Builtin.SmallTypes.nextOf (.ref i1) >>= _) _ _ _
  refine wpAny_bind (wpAny_nextOf_list_item (h1.extBut hs₁.extBut D.i1z) (hl1.extBut hs₁.extBut D.l1z) hx fun h₂ h1₂ hs₂ => wpAny_pure (wpAny_pure ?_))
  refine wpAny_bind (wpAny_bind (wpAny_holding ?_))
  show wpAny _ _ (Builtin.SmallTypes.nextOf (.ref i2) >>= _) _ _ _
  refine wpAny_bind (wpAny_nextOf_list_item ((h2.extBut hs₁.extBut D.i2z).extBut hs₂.extBut D.i12.symm) ((hl2.extBut hs₁.extBut D.l2z).extBut hs₂.extBut D.l2i1) hy fun h₃ h2₃ hs₃ => wpAny_pure (wpAny_pure (wpAny_pure ?_)))
  have hsz : h₃.objs.size = s.heap.objs.size := by rw [hs₃.1, hs₂.1, hs₁.1]
  have kp : ∀ c o, c ≠ z → c ≠ i1 → c ≠ i2 → s.heap.get? c = some o → h₃.get? c = some o := fun c o c1 c2 c3 e => hs₃.extBut _ _ c3 (hs₂.extBut _ _ c2 (hs₁.extBut _ _ c1 e))
  refine wpAny_bind (wpAny_newTuple ?_ (by show 2 ≤ sizeLine; decide))
  refine wpAny_pure ⟨_, rfl, ?_⟩
  have up : ∀ c o, h₃.get? c = some o → (h₃.push { cls := .type "tuple", data := .seq #[x, y] }).get? c = some o := fun c o e => Heap.get?_push_of_some _ e
  have qq := hQ (h₃.push { cls := .type "tuple", data := .seq #[x, y] }) (up _ _ (hs₃.extBut _ _ D.i2z.symm (hs₂.extBut _ _ D.i1z.symm hz₁)))
    ((h1₂.extBut hs₃.extBut D.i12).at fun o e => up _ o e) (h2₃.at fun o e => up _ o e) (by rw [← hsz]; exact Heap.get?_push_size _ rfl) (by rw [Heap.size_push, hsz]) fun c o c1 c2 c3 e => up _ _ (kp c o c1 c2 c3 e)
  rw [← hsz] at qq
  exact qq
/-- no next pair -/
theorem zip_over {z TI TO i1 i2 l1 l2 T : Addr} {b : Bool} {o : Obj} {k1 k2 : Nat} {xs ys : Array Value} {Q : Fin → Shared → Prop} (hh : A.handled = none) (D : ZipApart z TI TO i1 i2 l1 l2)
    (hz : ZipAt s.heap z TI TO (rawInt T) b) (hT : s.heap.get? T = some o) (hTI : IsPair s.heap TI (.ref i1) (.ref i2))
    (h1 : s.heap.IsListIter i1 l1 k1) (h2 : s.heap.IsListIter i2 l2 k2) (hl1 : s.heap.IsList l1 xs) (hl2 : s.heap.IsList l2 ys) (hend : xs[k1]? = none ∨ ys[k2]? = none)
    (hE : ∀ h' e, (∀ c o, c ≠ z → c ≠ i1 → c ≠ i2 → s.heap.get? c = some o → h'.get? c = some o) → (∃ o, h'.get? e = some o ∧ o.cls = .type "StopIteration") → E (.ref e) { s with heap := h' }) :
    wpAny (model prog w) A (Builtin.«zip.__next__» ⟨[.ref z], []⟩) Q E s := by
  show wpAny _ _ (field (.ref z) 2 >>= _) _ _ _
  refine wpAny_bind (wpAny_field hz rfl (x := .bool false) rfl ?_)
  show wpAny _ _ (field (.ref z) 3 >>= _) _ _ _
  refine wpAny_bind (wpAny_field hz rfl (x := .ref TI) rfl ?_)
  refine wpAny_bind (wpAny_seqItems hTI rfl ?_)
  show wpAny _ _ (Builtin.SmallTypes.ownedTupleIsFree (.ref z) >>= _) _ _ _
  refine wpAny_bind (held_not_free hz hT fun h₁ hz₁ hs₁ => ?_)
  simp only [Bool.false_eq_true, if_false]
  refine wpAny_bind ?_
  rw [← Array.forIn_toList]
  simp only [List.forIn_cons, List.forIn_nil]
  refine wpAny_bind (wpAny_bind (wpAny_holding ?_))
  show wpAny _ _ (Builtin.SmallTypes.nextOf (.ref i1) >>= _) _ _ _
  cases hx : xs[k1]? with
  | none =>
    refine wpAny_bind (wpAny_nextOf_list_end hh (h1.extBut hs₁.extBut D.i1z) (hl1.extBut hs₁.extBut D.l1z) hx fun h₂ e hs₂ he => ?_)
    exact hE h₂ e (fun c o c1 c2 _ z => hs₂ _ _ c2 (hs₁.extBut _ _ c1 z)) he
  | some x =>
    have hy : ys[k2]? = none := by rcases hend with h | h; rw [hx] at h; cases h; exact h
    refine wpAny_bind (wpAny_nextOf_list_item (h1.extBut hs₁.extBut D.i1z) (hl1.extBut hs₁.extBut D.l1z) hx fun h₂ h1₂ hs₂ => wpAny_pure (wpAny_pure ?_))
    refine wpAny_bind (wpAny_bind (wpAny_holding ?_))
    show wpAny _ _ (Builtin.SmallTypes.nextOf (.ref i2) >>= _) _ _ _
    refine wpAny_bind (wpAny_nextOf_list_end hh ((h2.extBut hs₁.extBut D.i2z).extBut hs₂.extBut D.i12.symm) ((hl2.extBut hs₁.extBut D.l2z).extBut hs₂.extBut D.l2i1) hy fun h₃ e hs₃ he => ?_)
    exact hE h₃ e (fun c o c1 c2 c3 z => hs₃ _ _ c3 (hs₂.extBut _ _ c2 (hs₁.extBut _ _ c1 z))) he
theorem zip_self {z TI TO : Addr} {f0 : Value} {b : Bool} {Q : Value → Shared → Prop} (hz : ZipAt s.heap z TI TO f0 b) (h : Q (.ref z) s) : wpAny (model prog w) A (pyIter (.ref z)) Q E s := by
  have hy : s.TypeIs (.ref z) "zip" := ⟨_, hz, rfl⟩
  refine wpAny_pyIter_slot hy F.slot_zip_iter (wpAny_call_entry F.slot_zip_iter hy F.entry_zip_iter ?_ (F.args_zip_iter_1 _))
  show wpAny _ _ (ret (.ref z)) _ _ s
  exact wpAny_pure ⟨_, rfl, "zip", _, hy, F.slot_zip_next.lookup, h⟩
theorem pyNext_more {z TI TO i1 i2 l1 l2 T : Addr} {b : Bool} {o : Obj} {k1 k2 : Nat} {xs ys : Array Value} {x y : Value} {Q : Option Value → Shared → Prop} (D : ZipApart z TI TO i1 i2 l1 l2)
    (hz : ZipAt s.heap z TI TO (rawInt T) b) (hT : s.heap.get? T = some o) (hTI : IsPair s.heap TI (.ref i1) (.ref i2))
    (h1 : s.heap.IsListIter i1 l1 k1) (h2 : s.heap.IsListIter i2 l2 k2) (hl1 : s.heap.IsList l1 xs) (hl2 : s.heap.IsList l2 ys) (hx : xs[k1]? = some x) (hy : ys[k2]? = some y)
    (hQ : ∀ h', ZipAt h' z TI TO (rawInt T) true → h'.IsListIter i1 l1 (k1 + 1) → h'.IsListIter i2 l2 (k2 + 1) → IsPair h' s.heap.objs.size x y → h'.objs.size = s.heap.objs.size + 1 →
      (∀ c o, c ≠ z → c ≠ i1 → c ≠ i2 → s.heap.get? c = some o → h'.get? c = some o) → Q (some (.ref s.heap.objs.size)) { s with heap := h' }) :
    wpAny (model prog w) A (pyNext (.ref z)) Q E s := by
  have hy' : s.TypeIs (.ref z) "zip" := ⟨_, hz, rfl⟩
  unfold pyNext
  refine wpAny_bind (wpAny_attempt (wpAny_callSpecial?_slot hy' F.slot_zip_next (wpAny_call_entry F.slot_zip_next hy' F.entry_zip_next ?_ (F.args_zip_next_1 _))))
  exact zip_more D hz hT hTI h1 h2 hl1 hl2 hx hy fun h' a1 a3 a4 a5 a6 a7 => wpAny_pure (hQ h' a1 a3 a4 a5 a6 a7)
theorem pyNext_over {z TI TO i1 i2 l1 l2 T : Addr} {b : Bool} {o : Obj} {k1 k2 : Nat} {xs ys : Array Value} {Q : Option Value → Shared → Prop} (hh : A.handled = none) (D : ZipApart z TI TO i1 i2 l1 l2)
    (hz : ZipAt s.heap z TI TO (rawInt T) b) (hT : s.heap.get? T = some o) (hTI : IsPair s.heap TI (.ref i1) (.ref i2))
    (h1 : s.heap.IsListIter i1 l1 k1) (h2 : s.heap.IsListIter i2 l2 k2) (hl1 : s.heap.IsList l1 xs) (hl2 : s.heap.IsList l2 ys) (hend : xs[k1]? = none ∨ ys[k2]? = none)
    (hQ : ∀ h', (∀ c o, c ≠ z → c ≠ i1 → c ≠ i2 → s.heap.get? c = some o → h'.get? c = some o) → Q none { s with heap := h' }) : wpAny (model prog w) A (pyNext (.ref z)) Q E s := by
  have hy' : s.TypeIs (.ref z) "zip" := ⟨_, hz, rfl⟩
  unfold pyNext
  refine wpAny_bind (wpAny_attempt (wpAny_callSpecial?_slot hy' F.slot_zip_next (wpAny_call_entry F.slot_zip_next hy' F.entry_zip_next (zip_over hh D hz hT hTI h1 h2 hl1 hl2 hend fun h' e hk he => ?_) (F.args_zip_next_1 _))))
  obtain ⟨o, ho, hc⟩ := he
  exact wpAny_bind (wpAny_isInstance (b := true) ⟨o, ho, hc⟩ isSubtype_stop (wpAny_pure (hQ _ hk)))
end
section
variable {prog : Program} {w : World} {A : Around} {R : Result → Shared → Prop}
/-- list.extend.loop, its state told of the heap and of what was gathered -/
theorem ext_loop {S I : Addr} {n : Nat} {s0 : Shared} (res : Value) (J : Nat → Array Value → Heap → Prop) (J' : Array Value → Heap → Prop) (hn : n ≤ sizeLine)
    (size : ∀ i acc h, J i acc h → acc.size = i)
    (push : ∀ i acc h h', J i acc h → (∀ b o, b ≠ S → h.get? b = some o → h'.get? b = some o) → h'.objs.size = h.objs.size → J i acc h')
    (item : ∀ i acc c h (Q : Option Value → Shared → Prop) (E : Value → Shared → Prop), i < n → J i acc h → h.get? S = some { cls := .type "list", dict := none, data := .seq acc c, slots := #[] } →
      (∀ v h', h'.get? S = some { cls := .type "list", dict := none, data := .seq acc c, slots := #[] } → J (i + 1) (acc.push v) h' → Q (some v) { s0 with heap := h' }) → wpAny (model prog w) A.in1 (pyNext (.ref I)) Q E { s0 with heap := h })
    (done : ∀ acc c h (Q : Option Value → Shared → Prop) (E : Value → Shared → Prop), J n acc h → h.get? S = some { cls := .type "list", dict := none, data := .seq acc c, slots := #[] } →
      (∀ h', h'.get? S = some { cls := .type "list", dict := none, data := .seq acc c, slots := #[] } → J' acc h' → Q none { s0 with heap := h' }) → wpAny (model prog w) A.in1 (pyNext (.ref I)) Q E { s0 with heap := h }) :
    ∀ (k i : Nat) (h : Heap) (acc : Array Value) (c : Nat), n - i = k → i ≤ n → J i acc h → h.get? S = some { cls := .type "list", dict := none, data := .seq acc c, slots := #[] } →
    (∀ h' acc' c', h'.get? S = some { cls := .type "list", dict := none, data := .seq acc' c', slots := #[] } → J' acc' h' → R (.ok (.ret res)) { s0 with heap := h' }) →
    codeAny (model prog w) A (.builtin "list.extend.loop" ⟨[.ref S, .ref I, res], []⟩) R { s0 with heap := h }
  | 0, i, h, acc, c, hk, hi, hj, hS, hR => by
    have e : i = n := by omega
    subst e
    refine codeAny_builtin F.entry_extend_loop ?_
    rw [Around.under_plainId F.plain_extend_loop _]
    show wpAny _ A.in1 (pyNext (.ref I) >>= _) _ _ _
    exact wpAny_bind (done acc c h _ _ hj hS fun h' hS' hj' => wpAny_pure (hR h' acc c hS' hj'))
  | k + 1, i, h, acc, c, hk, hi, hj, hS, hR => by
    have lt : i < n := by omega
    refine codeAny_builtin F.entry_extend_loop ?_
    rw [Around.under_plainId F.plain_extend_loop _]
    show wpAny _ A.in1 (pyNext (.ref I) >>= _) _ _ _
    refine wpAny_bind (item i acc c h _ _ lt hj hS fun v h' hS' hj' => ?_)
    show wpAny _ A.in1 (updateSeq S (·.push v) >>= _) _ _ _
    have hz := size _ _ _ hj
    refine wpAny_bind (wpAny_updateSeq hS' rfl (wpAny_pure ⟨plainId_quiet F.plain_extend_loop _, ?_⟩) (by rw [hz]; omega) (by show (acc.push v).size ≤ sizeLine + 1; rw [Array.size_push, hz]; omega))
    exact ext_loop res J J' hn size push item done k (i + 1) _ (acc.push v) _ (by omega) lt (push _ _ _ _ hj' (fun b o hb e => (Heap.get?_update_other _ _ (Ne.symm hb)).trans e) (Heap.size_update ..)) (Heap.get?_update_self _ hS' rfl) hR
end
section
variable {prog : Program} {w : World} {A : Around} {E : Value → Shared → Prop} {s : Shared}
theorem zip_nolen : typeLookup (.type "zip") "__len__" = pure none := by rw [typeLookup_type, builtinLookup_eq_fast]; kernel_rfl
theorem zip_nohint : typeLookup (.type "zip") "__length_hint__" = pure none := by rw [typeLookup_type, builtinLookup_eq_fast]; kernel_rfl
abbrev lstObj (acc : Array Value) (c : Nat) : Obj := { cls := .type "list", dict := none, data := .seq acc c, slots := #[] }
/-- list(z): z a zip object that may be walked from J 0 -/
theorem list_of_zip {z TI TO : Addr} {f0 : Value} {n : Nat} {Q : Value → Shared → Prop} (J : Nat → Array Value → Heap → Prop) (J' : Array Value → Heap → Prop) (hz0 : IsZip s.heap z TI TO f0) (hn : n ≤ sizeLine)
    (zip : ∀ i acc h, J i acc h → ∃ f0 b, ZipAt h z TI TO f0 b)
    (size : ∀ i acc h, J i acc h → acc.size = i)
    (push : ∀ i acc h h', J i acc h → (∀ b o, b ≠ s.heap.objs.size → h.get? b = some o → h'.get? b = some o) → h'.objs.size = h.objs.size → J i acc h')
    (start : ∀ h', h'.objs.size = s.heap.objs.size + 1 → (∀ b o, s.heap.get? b = some o → h'.get? b = some o) → J 0 #[] h')
    (item : ∀ i acc c h (Q : Option Value → Shared → Prop) (E : Value → Shared → Prop), i < n → J i acc h → h.get? s.heap.objs.size = some (lstObj acc c) →
      (∀ v h', h'.get? s.heap.objs.size = some (lstObj acc c) → J (i + 1) (acc.push v) h' → Q (some v) { s with heap := h' }) → wpAny (model prog w) A.in1.in1 (pyNext (.ref z)) Q E { s with heap := h })
    (done : ∀ acc c h (Q : Option Value → Shared → Prop) (E : Value → Shared → Prop), J n acc h → h.get? s.heap.objs.size = some (lstObj acc c) →
      (∀ h', h'.get? s.heap.objs.size = some (lstObj acc c) → J' acc h' → Q none { s with heap := h' }) → wpAny (model prog w) A.in1.in1 (pyNext (.ref z)) Q E { s with heap := h })
    (hQ : ∀ h' acc c, h'.get? s.heap.objs.size = some (lstObj acc c) → J' acc h' → Q (.ref s.heap.objs.size) { s with heap := h' }) :
    wpAny (model prog w) A (call (.type "list") [.ref z]) Q E s := by
  have hne : s.heap.objs.size ≠ z := Nat.ne_of_gt (Heap.lt_size hz0)
  refine callType_codes (Q₁ := fun obj s₁ => obj = .ref s.heap.objs.size ∧ s₁ = { s with heap := s.heap.push { cls := .type "list", data := .seq #[] } }) F.called_list (F.typeCall_list_1 _) F.entry_list_init (code_list_new _ ⟨rfl, rfl⟩) fun obj s₁ h₁ => ?_
  obtain ⟨rfl, rfl⟩ := h₁
  have g0 : (s.heap.push { cls := .type "list", data := .seq #[] }).get? s.heap.objs.size = some { cls := .type "list", data := .seq #[] } := Heap.get?_push_size _ rfl
  have j0 := start _ (Heap.size_push ..) fun b o e => Heap.get?_push_of_some { cls := .type "list", data := .seq #[] } e
  refine ⟨⟨_, g0, rfl⟩, F.args_list_init_2 _ _, ?_⟩
  show wpAny _ A.in1.in1 (do let old ← Builtin.List.listItems (.ref s.heap.objs.size); Builtin.List.listUpdate (.ref s.heap.objs.size) (fun _ => #[]); letGo old.toList.reverse; Builtin.List.listExtendWith (.ref s.heap.objs.size) (.ref z) .none) _ _ _
  refine wpAny_bind ?_
  unfold Builtin.List.listItems
  refine wpAny_bind (wpAny_seqItems g0 rfl (wpAny_pure ?_))
  show wpAny _ A.in1.in1 (updateSeq s.heap.objs.size (fun _ => #[]) >>= fun _ => letGo (#[] : Array Value).toList.reverse >>= fun _ => Builtin.List.listExtendWith (.ref s.heap.objs.size) (.ref z) .none) _ _ _
  refine wpAny_bind (wpAny_updateSeq g0 rfl ?_)
  have g1 := Heap.get?_update_self (Obj.mapSeq (fun _ => (#[] : Array Value))) g0 rfl
  have j1 := push _ _ _ _ j0 (fun b o hb e => (Heap.get?_update_other _ (Obj.mapSeq (fun _ => (#[] : Array Value))) (Ne.symm hb)).trans e) (Heap.size_update ..)
  refine wpAny_bind (wpAny_letGo ?_)
  unfold Builtin.List.listExtendWith
  obtain ⟨f1, b1, z1⟩ := zip _ _ _ j1
  refine wpAny_bind (wpAny_typeOf ⟨_, z1, rfl⟩ ?_)
  have h1 : Builtin.List.listSameRef (.ref s.heap.objs.size) (.ref z) = false := by simp [Builtin.List.listSameRef, hne]
  have h2 : (Value.type "zip" == Value.type "list") = false := by decide
  have h3 : (Value.type "zip" == Value.type "tuple") = false := by decide
  simp only [h1, h2, h3, Bool.or_false, Bool.false_eq_true, if_false]
  refine wpAny_bind (zip_self z1 (wpAny_bind (wpAny_holding ?_)))
  unfold Builtin.List.listLengthHint
  refine wpAny_bind (wpAny_specialOf ⟨_, z1, rfl⟩ zip_nolen ?_)
  show wpAny _ A.in1.in1 (specialOf (Value.ref z) (Str.ofString "__length_hint__") >>= _) _ _ _
  refine wpAny_bind (wpAny_specialOf ⟨_, z1, rfl⟩ zip_nohint (wpAny_pure ?_))
  show wpAny _ A.in1.in1 (rule "list.extend.makes-room" >>= fun _ => Builtin.List.listTouch (.ref s.heap.objs.size) >>= fun _ => again (.builtin "list.extend.loop" ⟨[.ref s.heap.objs.size, .ref z, .none], []⟩)) _ _ _
  refine wpAny_bind (wpAny_rule (wpAny_bind ?_))
  show wpAny _ A.in1.in1 (updateSeq s.heap.objs.size (·.push .none) >>= fun _ => updateSeq s.heap.objs.size (·.pop)) _ _ _
  refine wpAny_bind (wpAny_updateSeq g1 rfl ?_)
  have g2 := Heap.get?_update_self (Obj.mapSeq (·.push Value.none)) g1 rfl
  refine wpAny_updateSeq (hz := by seq_fits) g2 rfl ?_
  have g3 := Heap.get?_update_self (Obj.mapSeq (·.pop)) g2 rfl
  have j2 := push _ _ _ _ j1 (fun b o hb e => (Heap.get?_update_other _ (Obj.mapSeq (·.push Value.none)) (Ne.symm hb)).trans e) (Heap.size_update ..)
  have j3 := push _ _ _ _ j2 (fun b o hb e => (Heap.get?_update_other _ (Obj.mapSeq (·.pop)) (Ne.symm hb)).trans e) (Heap.size_update ..)
  exact wpAny_pure ⟨plainId_quiet F.plain_extend_loop _, ext_loop (s0 := s) .none J J' hn size push item done n 0 _ #[] _ rfl (Nat.zero_le _) j3 g3 fun h' acc' c' hS' hj' => ⟨rfl, hQ h' acc' c' hS' hj'⟩⟩
end
end DL

namespace DL
open PySem PySem.Spec PyProof.Rows L2
section
variable {X : Cx} {pins : List (Addr × Obj)} {σ : L2.St} {H H' : Hp} {s : Shared} {h' : Heap}
/-- several new objects are known at once -/
theorem inv_grow {t' : Nat} (I : Inv X pins σ H s) (k : ∀ b u, s.heap.get? b = some u → h'.get? b = some u) (same : ∀ b, b < s.heap.objs.size → H' b = H b)
    (new : ∀ b o, s.heap.objs.size ≤ b → H' b = some o → ObjOk X.prog X.w H' h' b o) : Inv X pins σ H' { s with heap := h', toks := t' } := by
  have kk : ∀ b u, H b = some u → H' b = some u := fun b u e => by rw [same b (I.hok.lt e)]; exact e
  refine I.un ⟨fun b u q _ _ _ => k b u q, fun b u q _ _ _ => ⟨u.slots, k b u q⟩, fun b u q n _ => by rw [same b (Heap.lt_size q)]; exact n, fun b u q _ => ⟨u, k b u q⟩,
    fun b xs q => kk b _ q, fun b u xs q => kk b _ q, fun b ps q => ⟨#[], by rw [kk b _ q]; simp⟩⟩ fun b u e => ?_
  rcases Nat.lt_or_ge b s.heap.objs.size with hb | hb
  · rw [same b hb] at e
    exact (I.hok b u e).stay (fun c v _ q => k c v q) (fun c q => kk c _ q) fun c xs q => kk c _ q
  · exact new b u hb e
end
/-- what is known, and the new objects -/
def lay : List (Addr × HO) → Hp → Hp
  | [], H => H
  | (a, o) :: r, H => upd (lay r H) a o
theorem lay_not {H : Hp} {a : Addr} : ∀ {ps : List (Addr × HO)}, (∀ p ∈ ps, p.1 ≠ a) → lay ps H a = H a
  | [], _ => rfl
  | (b, o) :: r, h => by
    unfold lay
    rw [upd_ne (Ne.symm (h _ List.mem_cons_self))]
    exact lay_not fun p hp => h p (List.mem_cons_of_mem _ hp)
theorem lay_at {H : Hp} {a : Addr} {o : HO} : ∀ {ps : List (Addr × HO)}, (ps.map (·.1)).Nodup → (a, o) ∈ ps → lay ps H a = some o
  | [], _, h => by cases h
  | (b, u) :: r, nd, h => by
    unfold lay
    rw [List.map_cons, List.nodup_cons] at nd
    rcases List.mem_cons.mp h with e | h
    · cases e; exact upd_same
    · rw [upd_ne (show a ≠ b from fun e => nd.1 (List.mem_map.mpr ⟨(a, o), h, e⟩))]
      exact lay_at nd.2 h
theorem lay_inv {H : Hp} {a : Addr} {o : HO} : ∀ {ps : List (Addr × HO)}, lay ps H a = some o → (a, o) ∈ ps ∨ H a = some o
  | [], h => .inr h
  | (b, u) :: r, h => by
    unfold lay at h
    by_cases e : a = b
    · subst e; rw [upd_same] at h; cases h; exact .inl List.mem_cons_self
    · rw [upd_ne e] at h
      rcases lay_inv h with q | q
      · exact .inl (List.mem_cons_of_mem _ q)
      · exact .inr q
theorem nlt {c n k : Nat} (h : c < n) : c ≠ n + k := by omega
theorem nlt0 {c n : Nat} (h : c < n) : c ≠ n := by omega
theorem nge {c n k : Nat} (h : n + 6 ≤ c) (hk : k < 6 := by decide) : c ≠ n + k := by omega
theorem nge0 {c n : Nat} (h : n + 6 ≤ c) : c ≠ n := by omega
/-- the state of a zip whose tuples are gathered -/
structure ZJ (hb : Heap) (a b : Addr) (xs ys : Array Value) (i : Nat) (acc : Array Value) (h : Heap) : Prop where
  kp : ∀ c o, hb.get? c = some o → h.get? c = some o
  sz : hb.objs.size + 6 ≤ h.objs.size
  ti : IsPair h (hb.objs.size + 2) (.ref hb.objs.size) (.ref (hb.objs.size + 1))
  it1 : h.IsListIter hb.objs.size a i
  it2 : h.IsListIter (hb.objs.size + 1) b i
  len : acc.size = i
  at_ : (∃ u v, IsPair h (hb.objs.size + 3) u v) ∧ ZipAt h (hb.objs.size + 4) (hb.objs.size + 2) (hb.objs.size + 3) .none false ∨
    ∃ T o m, ZipAt h (hb.objs.size + 4) (hb.objs.size + 2) (hb.objs.size + 3) (rawInt (T : Nat)) m ∧ h.get? T = some o ∧ hb.objs.size + 6 ≤ T
  got : ∀ (j : Nat) (v : Value), acc[j]? = some v → ∃ (T : Nat) (x y : Value), v = Value.ref T ∧ xs[j]? = some x ∧ ys[j]? = some y ∧ IsPair h T x y ∧ hb.objs.size + 6 ≤ T
  nd : ∀ (j k : Nat) (T : Addr), acc[j]? = some (Value.ref T) → acc[k]? = some (Value.ref T) → j = k
theorem ZJ.push {hb : Heap} {a b : Addr} {xs ys : Array Value} {i : Nat} {acc : Array Value} {h h' : Heap} (j : ZJ hb a b xs ys i acc h) (k : ∀ c o, c ≠ hb.objs.size + 5 → h.get? c = some o → h'.get? c = some o) (hs : h'.objs.size = h.objs.size) : ZJ hb a b xs ys i acc h' where
  kp := fun c o e => have q : c < hb.objs.size := Heap.lt_size e; k c o (nlt q) (j.kp c o e)
  sz := by rw [hs]; exact j.sz
  ti := k _ _ (by omega) j.ti
  it1 := j.it1.at fun o e => k _ o (by omega) e
  it2 := j.it2.at fun o e => k _ o (by omega) e
  len := j.len
  at_ := by
    rcases j.at_ with ⟨⟨u, v, h1⟩, h2⟩ | ⟨T, o, m, h1, h2, h3⟩
    · exact .inl ⟨⟨u, v, k _ _ (by omega) h1⟩, k _ _ (by omega) h2⟩
    · exact .inr ⟨T, o, m, k _ _ (by omega) h1, k _ _ (nge h3) h2, h3⟩
  got := fun n v e => by
    obtain ⟨T, x, y, h1, h2, h3, h4, h5⟩ := j.got n v e
    exact ⟨T, x, y, h1, h2, h3, k _ _ (nge h5) h4, h5⟩
  nd := j.nd
theorem ZJ.more {hb : Heap} {a b : Addr} {xs ys : Array Value} {i : Nat} {acc : Array Value} {h h' : Heap} {x y : Value} (j : ZJ hb a b xs ys i acc h) (hx : xs[i]? = some x) (hy : ys[i]? = some y)
    (k : ∀ c o, c ≠ hb.objs.size + 4 → c ≠ hb.objs.size + 3 → c ≠ hb.objs.size → c ≠ hb.objs.size + 1 → h.get? c = some o → h'.get? c = some o) (hs : h'.objs.size = h.objs.size + 1)
    (i1 : h'.IsListIter hb.objs.size a (i + 1)) (i2 : h'.IsListIter (hb.objs.size + 1) b (i + 1)) (hT : IsPair h' h.objs.size x y)
    (az : ∃ T o m, ZipAt h' (hb.objs.size + 4) (hb.objs.size + 2) (hb.objs.size + 3) (rawInt (T : Nat)) m ∧ h'.get? T = some o ∧ hb.objs.size + 6 ≤ T) : ZJ hb a b xs ys (i + 1) (acc.push (.ref h.objs.size)) h' where
  kp := fun c o e => have q : c < hb.objs.size := Heap.lt_size e; k c o (nlt q) (nlt q) (nlt0 q) (nlt q) (j.kp c o e)
  sz := by rw [hs]; have := j.sz; omega
  ti := k _ _ (by omega) (by omega) (by omega) (by omega) j.ti
  it1 := i1
  it2 := i2
  len := by rw [Array.size_push, j.len]
  at_ := .inr az
  got := fun n v e => by
    rw [Array.getElem?_push] at e
    split at e
    · rename_i q
      cases e
      rw [j.len] at q
      subst q
      exact ⟨_, x, y, rfl, hx, hy, hT, j.sz⟩
    · obtain ⟨T, x, y, h1, h2, h3, h4, h5⟩ := j.got n v e
      exact ⟨T, x, y, h1, h2, h3, k _ _ (nge h5) (nge h5) (nge0 h5) (nge h5) h4, h5⟩
  nd := fun n m T e1 e2 => by
    have old : ∀ (n : Nat), acc[n]? = some (Value.ref T) → T ≠ h.objs.size := fun n e z => by
      obtain ⟨T', x, y, h1, _, _, h4, _⟩ := j.got n _ e
      injection h1 with h1
      subst h1
      exact absurd z (Nat.ne_of_lt (Heap.lt_size h4))
    rw [Array.getElem?_push] at e1 e2
    split at e1 <;> split at e2
    · omega
    · cases e1; exact absurd rfl (old _ e2)
    · cases e2; exact absurd rfl (old _ e1)
    · exact j.nd n m T e1 e2
/-- .. behind its end -/
structure ZE (hb : Heap) (xs ys : Array Value) (n : Nat) (acc : Array Value) (h : Heap) : Prop where
  kp : ∀ c o, hb.get? c = some o → h.get? c = some o
  len : acc.size = n
  got : ∀ (j : Nat) (v : Value), acc[j]? = some v → ∃ (T : Nat) (x y : Value), v = Value.ref T ∧ xs[j]? = some x ∧ ys[j]? = some y ∧ IsPair h T x y ∧ hb.objs.size + 6 ≤ T
  nd : ∀ (j k : Nat) (T : Addr), acc[j]? = some (Value.ref T) → acc[k]? = some (Value.ref T) → j = k
theorem ZJ.over {hb : Heap} {a b : Addr} {xs ys : Array Value} {i : Nat} {acc : Array Value} {h h' : Heap} (j : ZJ hb a b xs ys i acc h)
    (k : ∀ c o, c ≠ hb.objs.size + 4 → c ≠ hb.objs.size + 3 → c ≠ hb.objs.size → c ≠ hb.objs.size + 1 → h.get? c = some o → h'.get? c = some o) : ZE hb xs ys i acc h' where
  kp := fun c o e => have q : c < hb.objs.size := Heap.lt_size e; k c o (nlt q) (nlt q) (nlt0 q) (nlt q) (j.kp c o e)
  len := j.len
  got := fun n v e => by
    obtain ⟨T, x, y, h1, h2, h3, h4, h5⟩ := j.got n v e
    exact ⟨T, x, y, h1, h2, h3, k _ _ (nge h5) (nge h5) (nge0 h5) (nge h5) h4, h5⟩
  nd := j.nd
/-- what list(zip(a, b)) asks and tells -/
def tListZip (K : PySem.W.Frag) (ta : TA) : TE := fun σ H Q => ta σ H fun vs H1 => ∃ (a b : Addr) (xs ys : List V), vs = [.ref a, .ref b] ∧ SqL K H1 a xs ∧ SqL K H1 b ys ∧
  ∀ (l : Addr) (Ts : List Addr) (H2 : Hp), H1 l = none → Ts.length = min xs.length ys.length → (∀ (j : Nat) (T : Addr), Ts[j]? = some T → H1 T = none ∧ T ≠ l ∧ ∃ x y, xs[j]? = some x ∧ ys[j]? = some y ∧ H2 T = some (.tup [x, y])) →
    H2 l = some (.lst (Ts.map V.ref)) → (∀ c, c ≠ l → c ∉ Ts → H2 c = H1 c) → Q (.ref l) H2
theorem vals_at {xs : List V} {its : List Value} {n : Nat} {x : Value} (r : Vals xs its) (h : its[n]? = some x) : ∃ v, xs[n]? = some v ∧ RelV v x := by
  induction r generalizing n with
  | nil => cases h
  | cons a b ih =>
    cases n with
    | zero => cases h; exact ⟨_, rfl, a⟩
    | succ n => exact ih (n := n) h
def refOf : Value → Addr
  | .ref a => a
  | _ => 0
theorem pe_listZip {X : Cx} {e e2 : Expr} {ta : TA} {p p2 q pos : Pos} (hc : X.calm = true) (hg : Gl X "list") (hm : X.mg "list" = none) (hg2 : Gl X "zip") (hm2 : X.mg "zip" = none) (ha : PA X [e, e2] ta)
    (hs : starEach [e, e2] X.env = (false, eval e X.env) :: starEach [e2] X.env := by rfl) (hpl : (backTo q (starEach [e2] X.env)).any (·.1) = false := by rfl)
    (na : starEach [.Call (.Name "zip" p2) [e, e2] [] q] X.env = (false, eval (.Call (.Name "zip" p2) [e, e2] [] q) X.env) :: starEach [] X.env := by rfl) :
    PE X (.Call (.Name "list" p) [.Call (.Name "zip" p2) [e, e2] [] q] [] pos) (tListZip X.K ta) := by
  refine ⟨fun pins s σ H Q I h => ?_⟩
  refine Call_ (ld_blt I hg hm PyProof.Rows.boot_list ?_)
  refine PyProof.Rows.callWith_type1 (PyProof.Rows.args_cons ?_ na) na rfl
  refine Call_ (ld_blt I hg2 hm2 PyProof.Rows.boot_zip (PyProof.Rows.callWith_type1 (thn (ha.run q pins s σ H _ I h) fun us s1 ⟨vs, H1, I1, r1, q1⟩ => ?_) hs hpl))
  obtain ⟨a, b, xs, ys, ex, hqx, hqy, q1⟩ := q1
  subst ex
  obtain ⟨u1, u2, rfl, r1, r2⟩ := vals2 r1
  cases r1
  cases r2
  obtain ⟨its, rv, p1, z1⟩ := I1.list hqx
  obtain ⟨its2, rv2, p2, z2⟩ := I1.list hqy
  have e1 := rv.length
  have e2 := rv2.length
  have hh := I1.ok.hd hc
  refine call_zip_2 p1.isList p2.isList fun h1 hz hTI hTO hi1 hi2 hsz hk => ?_
  refine PyProof.Rows.args_nil ?_
  have la := p1.lt
  have lb := p2.lt
  have D := PySem.W.ktu_apart s1.heap.objs.size a b la lb
  have eN : (Shared.heap { s1 with heap := h1 }).objs.size = s1.heap.objs.size + 5 := hsz
  have ls : ∀ {i acc h}, ZJ s1.heap a b its.toArray its2.toArray i acc h → h.IsList a its.toArray ∧ h.IsList b its2.toArray := fun j => ⟨p1.isList.at fun o e => j.kp _ o e, p2.isList.at fun o e => j.kp _ o e⟩
  refine list_of_zip (n := min its.length its2.length) (ZJ s1.heap a b its.toArray its2.toArray) (ZE s1.heap its.toArray its2.toArray (min its.length its2.length)) hz (by omega)
    (fun i acc h j => ?_) (fun i acc h j => j.len) (fun i acc h h' j k hs => j.push (by rw [eN] at k; exact k) hs) (fun h' hs k => ?_) (fun i acc c h Q' E' hi j hS k => ?_) (fun acc c h Q' E' j hS k => ?_) fun h' acc c hS j => ?_
  · rcases j.at_ with ⟨_, z⟩ | ⟨T, o, m, z, _⟩
    · exact ⟨_, _, z⟩
    · exact ⟨_, _, z⟩
  · rw [eN] at hs
    exact ⟨fun c o e => k _ _ (hk c o e), by omega, k _ _ hTI, hi1.at fun o e => k _ o e, hi2.at fun o e => k _ o e, rfl, .inl ⟨⟨_, _, k _ _ hTO⟩, k _ _ hz⟩, fun j v e => (by simp at e), fun j k T e => (by simp at e)⟩
  · rw [eN] at hS k
    obtain ⟨l1, l2⟩ := ls j
    have gx : its.toArray[i]? = some its[i] := by simp [List.getElem?_eq_getElem (show i < its.length by omega)]
    have gy : its2.toArray[i]? = some its2[i] := by simp [List.getElem?_eq_getElem (show i < its2.length by omega)]
    have big := j.sz
    have eS : s1.heap.objs.size + 5 ≠ s1.heap.objs.size + 4 ∧ s1.heap.objs.size + 5 ≠ s1.heap.objs.size + 3 ∧ s1.heap.objs.size + 5 ≠ s1.heap.objs.size ∧ s1.heap.objs.size + 5 ≠ s1.heap.objs.size + 1 := by omega
    obtain ⟨q5, q6, q7, q8⟩ := eS
    rcases j.at_ with ⟨⟨u, v, t⟩, z⟩ | ⟨T, o, m, z, t, tl⟩
    · refine wpAny_pyNext_zip_item D z j.ti t j.it1 j.it2 l1 l2 gx gy fun h' a1 a2 a3 a4 a5 a6 hk' => k _ h' (hk' _ _ q5 q6 q7 q8 hS) (j.more gx gy hk' a6 a3 a4 a5 ⟨_, _, _, a1, a5, big⟩)
    · refine pyNext_more D z t j.ti j.it1 j.it2 l1 l2 gx gy fun h' a1 a3 a4 a5 a6 hk' => k _ h' (hk' _ _ q5 q7 q8 hS) (j.more gx gy (fun c o c1 _ c3 c4 => hk' c o c1 c3 c4) a6 a3 a4 a5 ⟨T, o, _, a1, ?_, tl⟩)
      exact hk' _ _ (nge tl) (nge0 tl) (nge tl) t
  · rw [eN] at hS k
    obtain ⟨l1, l2⟩ := ls j
    have eS : s1.heap.objs.size + 5 ≠ s1.heap.objs.size + 4 ∧ s1.heap.objs.size + 5 ≠ s1.heap.objs.size + 3 ∧ s1.heap.objs.size + 5 ≠ s1.heap.objs.size ∧ s1.heap.objs.size + 5 ≠ s1.heap.objs.size + 1 := by omega
    obtain ⟨q5, q6, q7, q8⟩ := eS
    have fin : its.toArray[min its.length its2.length]? = none ∨ its2.toArray[min its.length its2.length]? = none := by
      rcases Nat.le_total its.length its2.length with z | z
      · left; rw [Nat.min_eq_left z]; simp
      · right; rw [Nat.min_eq_right z]; simp
    rcases j.at_ with ⟨⟨u, v, t⟩, z⟩ | ⟨T, o, m, z, t, tl⟩
    · exact wpAny_pyNext_zip_end hh D z j.ti t j.it1 j.it2 l1 l2 fin fun h' hk' => k h' (hk' _ _ q5 q6 q7 q8 hS) (j.over hk')
    · exact pyNext_over hh D z t j.ti j.it1 j.it2 l1 l2 fin fun h' hk' => k h' (hk' _ _ q5 q7 q8 hS) (j.over fun c o c1 _ c3 c4 => hk' c o c1 c3 c4)
  · rw [eN] at hS
    show EP X pins σ Q _ _
    rw [eN]
    have an : ∀ (n : Nat) (v : Value), acc.toList[n]? = some v → ∃ (T : Addr) (x y : V) (x' y' : Value), v = Value.ref T ∧ xs[n]? = some x ∧ ys[n]? = some y ∧ RelV x x' ∧ RelV y y' ∧ IsPair h' T x' y' ∧ s1.heap.objs.size + 6 ≤ T := fun n v hn => by
      obtain ⟨T, x, y, h1, h2, h3, h4, h5⟩ := j.got n v (by simpa using hn)
      obtain ⟨x0, g1, g2⟩ := vals_at rv (show its[n]? = some x by simpa using h2)
      obtain ⟨y0, g3, g4⟩ := vals_at rv2 (show its2[n]? = some y by simpa using h3)
      exact ⟨T, x0, y0, x, y, h1, g1, g3, g2, g4, h4, h5⟩
    have lenT : (acc.toList.map refOf).length = min xs.length ys.length := by rw [List.length_map, Array.length_toList, j.len, e1, e2]
    have atT : ∀ (n : Nat) (T : Addr), (acc.toList.map refOf)[n]? = some T → acc.toList[n]? = some (Value.ref T) := fun n T hn => by
      rw [List.getElem?_map] at hn
      cases hv : acc.toList[n]? with
      | none => rw [hv] at hn; cases hn
      | some v =>
        rw [hv] at hn
        obtain ⟨T', _, _, _, _, h1, _⟩ := an n v hv
        rw [h1] at hn ⊢
        cases hn
        rfl
    have ndT : (acc.toList.map refOf).Nodup := by
      refine List.pairwise_iff_getElem.mpr fun n m hn hm hnm e => ?_
      obtain ⟨T, hT⟩ : ∃ T, (acc.toList.map refOf)[m]? = some T := ⟨_, List.getElem?_eq_getElem hm⟩
      have h1 := atT m T hT
      have h2 := atT n T (by rw [List.getElem?_eq_getElem hn, e, ← List.getElem?_eq_getElem hm]; exact hT)
      exact absurd (j.nd n m T (by simpa using h2) (by simpa using h1)) (Nat.ne_of_lt hnm)
    obtain ⟨ps, hps⟩ : ∃ ps : List (Addr × HO), ps = ((acc.toList.map refOf).zip (xs.zip ys)).map fun p => (p.1, .tup [p.2.1, p.2.2]) := ⟨_, rfl⟩
    have fst : ps.map (·.1) = acc.toList.map refOf := by
      rw [hps, List.map_map]
      exact List.map_fst_zip (by rw [lenT, List.length_zip]; exact Nat.le_refl _)
    have inT : ∀ p ∈ ps, ∃ (n : Nat) (x y : V), (acc.toList.map refOf)[n]? = some p.1 ∧ xs[n]? = some x ∧ ys[n]? = some y ∧ p.2 = .tup [x, y] := fun p hp => by
      rw [hps] at hp
      obtain ⟨q, hq, rfl⟩ := List.mem_map.mp hp
      obtain ⟨n, hn⟩ := List.mem_iff_getElem?.mp hq
      rw [List.getElem?_zip_eq_some] at hn
      obtain ⟨h1, h2⟩ := hn
      rw [List.getElem?_zip_eq_some] at h2
      exact ⟨n, _, _, h1, h2.1, h2.2, rfl⟩
    have big : ∀ p ∈ ps, s1.heap.objs.size + 6 ≤ p.1 := fun p hp => by
      obtain ⟨n, x, y, h1, _⟩ := inT p hp
      obtain ⟨T, _, _, _, _, g1, _, _, _, _, _, g2⟩ := an n _ (atT n _ h1)
      injection g1 with g1
      rw [g1]
      exact g2
    have nl : ∀ p ∈ ps, p.1 ≠ s1.heap.objs.size + 5 := fun p hp => nge (big p hp)
    have H2l : lay ((s1.heap.objs.size + 5, HO.lst ((acc.toList.map refOf).map V.ref)) :: ps) H1 (s1.heap.objs.size + 5) = some (.lst ((acc.toList.map refOf).map V.ref)) := upd_same
    have H2n : ∀ c, c ≠ s1.heap.objs.size + 5 → lay ((s1.heap.objs.size + 5, HO.lst ((acc.toList.map refOf).map V.ref)) :: ps) H1 c = lay ps H1 c := fun c hc => upd_ne hc
    have vT : ∀ (l : List Value), (∀ v ∈ l, ∃ T : Addr, v = Value.ref T) → Vals ((l.map refOf).map V.ref) l := fun l => by
      induction l with
      | nil => exact fun _ => .nil
      | cons v l ih =>
        intro hl
        obtain ⟨T, e⟩ := hl v List.mem_cons_self
        subst e
        exact .cons rfl (ih fun v hv => hl v (List.mem_cons_of_mem _ hv))
    have I2 : Inv X pins σ (lay ((s1.heap.objs.size + 5, HO.lst ((acc.toList.map refOf).map V.ref)) :: ps) H1) { s1 with heap := h' } := by
      refine inv_grow (t' := s1.toks) I1 j.kp (fun b hb => ?_) (fun b o hb ho => ?_)
      · rw [H2n b (nlt hb), lay_not fun p hp => Ne.symm (Nat.ne_of_lt (Nat.lt_of_lt_of_le hb (Nat.le_trans (Nat.le_add_right _ _) (big p hp))))]
      · by_cases hl : b = s1.heap.objs.size + 5
        · subst hl
          rw [H2l] at ho
          cases ho
          exact ⟨by rw [List.length_map, lenT, e1]; exact Nat.le_trans (Nat.min_le_left _ _) (by rw [← e1]; exact z1), acc.toList, c, vT _ (fun v hv => by
            obtain ⟨n, hn⟩ := List.mem_iff_getElem?.mp hv
            obtain ⟨T, _, _, _, _, g, _⟩ := an n v hn
            exact ⟨T, g⟩), by simpa using hS⟩
        · rw [H2n b hl] at ho
          rcases lay_inv ho with hm | hm
          · obtain ⟨n, x, y, h1, h2, h3, h4⟩ := inT _ hm
            obtain ⟨T, x0, y0, x', y', g1, g2, g3, g4, g5, g6, _⟩ := an n _ (atT n _ h1)
            injection g1 with g1
            rw [h2] at g2; rw [h3] at g3
            cases g2; cases g3
            simp only at h4
            rw [h4]
            subst g1
            exact ⟨show 2 ≤ sizeLine by decide, [x', y'], .cons g4 (.cons g5 .nil), _, g6, rfl, _, rfl⟩
          · exact absurd (I1.hok.lt hm) (Nat.not_lt.mpr hb)
    refine ⟨.ref (s1.heap.objs.size + 5), _, I2, rfl, ?_⟩
    · refine q1 _ (acc.toList.map refOf) _ (I1.hok.fresh (Nat.le_add_right _ _)) lenT (fun n T hn => ?_) H2l fun c hc hm => ?_
      · obtain ⟨T', x0, y0, x', y', g1, g2, g3, g4, g5, g6, g7⟩ := an n _ (atT n T hn)
        injection g1 with g1
        subst g1
        refine ⟨I1.hok.fresh (Nat.le_trans (Nat.le_add_right _ _) g7), nge g7, x0, y0, g2, g3, ?_⟩
        rw [H2n T (nge g7)]
        refine lay_at (by rw [fst]; exact ndT) ?_
        rw [hps]
        exact List.mem_map.mpr ⟨(T, (x0, y0)), List.mem_iff_getElem?.mpr ⟨n, by rw [List.getElem?_zip_eq_some, List.getElem?_zip_eq_some]; exact ⟨hn, g2, g3⟩⟩, rfl⟩
      · rw [H2n c hc]
        exact lay_not fun p hp e => hm (by rw [← e, ← fst]; exact List.mem_map.mpr ⟨p, hp, rfl⟩)
section
variable {X : Cx} {B : Hp} {a b : Expr} {δ : EN} {O : OH} {Q : D → OH → Prop}
/-- list(zip(a, b)) of two lists -/
theorem de_listZip {p p2 q pos : Pos} (hm : X.mg "list" = none) (hm2 : X.mg "zip" = none) (hc : X.calm = true) (hg : Gl X "list") (hg2 : Gl X "zip")
    (h : DA X B [a, b] δ O fun xs O2 => ∃ x y ds es, xs = [x, y] ∧ RdL O2 x ds ∧ RdL O2 y es ∧ ∀ l, O2 l = none → Q (.ptr l) (updO O2 l (.lst (zipD ds es))))
    (hs : starEach [a, b] X.env = (false, eval a X.env) :: starEach [b] X.env := by rfl) (hpl : (backTo q (starEach [b] X.env)).any (·.1) = false := by rfl)
    (na : starEach [.Call (.Name "zip" p2) [a, b] [] q] X.env = (false, eval (.Call (.Name "zip" p2) [a, b] [] q) X.env) :: starEach [] X.env := by rfl) :
    DE X B (.Call (.Name "list" p) [.Call (.Name "zip" p2) [a, b] [] q] [] pos) δ O Q :=
  DE.of (pe_listZip hc hg hm hg2 hm2 selfA hs hpl na) fun σ H I e1 h1 b1 => tA_mono (h σ H I e1 h1 b1) fun vv H2 ⟨I2, O2, xs, s2, h3, rr, x, y, ds, es, hx, hr, hr2, q⟩ => by
    subst hx
    obtain ⟨v, u, rfl, r, r2⟩ := reps2 rr
    obtain ⟨p, vs, rfl, hq, rs⟩ := hr.seq h3 r
    obtain ⟨p2, us, rfl, hq2, rs2⟩ := hr2.seq h3 r2
    refine ⟨p, p2, vs, us, rfl, hq, hq2, fun l Ts H3 hl hT at_ gl oth => ?_⟩
    obtain ⟨nI, nO⟩ := h3.none_of hl
    have nT : ∀ T ∈ Ts, I2 T = none ∧ O2 T = none ∧ T ≠ l := fun T hm => by
      obtain ⟨n, hn⟩ := List.mem_iff_getElem?.mp hm
      obtain ⟨g, gl, _⟩ := at_ n T hn
      exact ⟨(h3.none_of g).1, (h3.none_of g).2, gl⟩
    have dec : ∀ c, Decidable (c ∈ Ts) := fun c => inferInstance
    have s3 : Same I2 (fun c => if c ∈ Ts then H3 c else I2 c) := fun c o e => by
      show (if c ∈ Ts then H3 c else I2 c) = some o
      rw [if_neg fun hm => by rw [(nT c hm).1] at e; cases e]
      exact e
    have reps : Reps X.K (fun c => if c ∈ Ts then H3 c else I2 c) (zipD ds es) (Ts.map V.ref) := by
      have go : ∀ (Ts' : List Addr) (ds es : List D) (vs us : List V) (k : Nat), (∀ T ∈ Ts', T ∈ Ts) → Reps X.K I2 ds vs → Reps X.K I2 es us → Ts'.length = min vs.length us.length →
          (∀ (j : Nat) (T : Addr), Ts'[j]? = some T → ∃ x y, vs[j]? = some x ∧ us[j]? = some y ∧ H3 T = some (.tup [x, y])) → Reps X.K (fun c => if c ∈ Ts then H3 c else I2 c) (zipD ds es) (Ts'.map V.ref) := by
        intro Ts' ds es vs us k
        induction Ts' generalizing ds es vs us with
        | nil =>
          intro _ r r' hl _
          have : zipD ds es = [] := List.eq_nil_of_length_eq_zero (by rw [zipD_len, r.len, r'.len, ← hl]; rfl)
          rw [this]
          exact .nil
        | cons T Ts' ih =>
          intro hs r r' hl ha
          obtain ⟨x, y, g1, g2, g3⟩ := ha 0 T rfl
          cases r with
          | nil => cases g1
          | cons rd rs =>
            cases r' with
            | nil => cases g2
            | cons rd' rs' =>
              cases g1
              cases g2
              refine .cons (.tup (SqT.of (xs := [_, _]) ?_) (.cons (rd.mono s3) (.cons (rd'.mono s3) .nil))) (ih _ _ _ _ (fun T h => hs T (List.mem_cons_of_mem _ h)) rs rs' (by simp only [List.length_cons] at hl; omega) fun j T hj => ha (j + 1) T hj)
              show (if T ∈ Ts then H3 T else I2 T) = _
              rw [if_pos (hs T List.mem_cons_self)]
              exact g3
      exact go Ts ds es vs us 0 (fun _ h => h) rs rs2 hT fun j T hj => let ⟨_, _, x, y, g⟩ := at_ j T hj; ⟨x, y, g⟩
    refine ⟨fun c => if c ∈ Ts then H3 c else I2 c, _, .ptr l, s2.trans s3, ⟨fun c o e => ?_, fun c cc e => ?_⟩, .ptr, q l nO⟩
    · by_cases hm : c ∈ Ts
      · rw [if_pos hm] at e; exact e
      · rw [if_neg hm] at e
        have hne : c ≠ l := fun z => by rw [z, nI] at e; cases e
        rw [oth c hne hm]
        exact h3.sub _ _ e
    · by_cases hl' : c = l
      · subst hl'
        rw [updO_same] at e
        cases e
        refine ⟨?_, ?_⟩
        · show (if c ∈ Ts then H3 c else I2 c) = none
          rw [if_neg fun hm => (nT c hm).2.2 rfl]
          exact nI
        · exact ⟨_, gl, reps⟩
      · rw [updO_ne hl'] at e
        have hm : c ∉ Ts := fun hm => by rw [(nT c hm).2.1] at e; cases e
        obtain ⟨g1, g2⟩ := h3.cel _ _ e
        refine ⟨?_, ?_⟩
        · show (if c ∈ Ts then H3 c else I2 c) = none
          rw [if_neg hm]; exact g1
        · rw [oth c hl' hm]
          exact g2.mono s3
end
end DL

namespace DL
open PySem PySem.Spec PyProof.Rows L2
section
variable {M : Dis} {X : Cx} {B : Hp} {e a b c : Expr} {es : List Expr} {δ : EN} {O O' : OH} {Q R : D → OH → Prop} {pos : Pos} {E : ED} {K : PySem.W.Frag} {I J : Hp}
/-! ### isinstance -/
structure InsC (K : PySem.W.Frag) (C : Addr) : Prop where
  cl : Cls K C
  ha : PySem.W.findIn K (.ref C) "__class__" = some (some (.builtin "object.__class__"))
  hn : PySem.W.specialIn K (.builtin "object.__class__") "__get__" = some (some (.builtin "getset_descriptor.__get__"))
  tk : PySem.W.takesIn K (.builtin "object.__class__") = some true
  mr : PySem.W.mroIn K C (.type "object") = some true
inductive TyDX (K : PySem.W.Frag) (O : OH) : D → Value → Prop
  | non : TyDX K O .non (.type "NoneType")
  | bl {k : Bool} : TyDX K O (.bl k) (.type "bool")
  | int {i : Int} : TyDX K O (.int i) (.type "int")
  | str {x : Str} : TyDX K O (.str x) (.type "str")
  | tup {ds : List D} : TyDX K O (.tup ds) (.type "tuple")
  | lst {ds : List D} : TyDX K O (.lst ds) (.type "list")
  | lsk {ds : List D} : TyDX K O (.lsk ds) (.type "list")
  | cell {l : Addr} {ds : List D} (h : O l = some (.lst ds)) : TyDX K O (.ptr l) (.type "list")
  | ins {x : D} {C : Addr} {fs : List (Str × D)} (h : RdI O x C fs) (ic : InsC K C) : TyDX K O x (.ref C)
theorem sqL_ty {K : PySem.W.Frag} {H : Hp} {a : Addr} {vs : List V} (h : SqL K H a vs) : TyX K H (.ref a) (.type "list") := by
  rcases h with (h | ⟨o, h⟩) | ⟨o, its, n, hk, hc, _⟩
  · exact .base (.lst h)
  · exact .base (.frz h)
  · exact .kList hk hc
theorem sqT_ty {K : PySem.W.Frag} {H : Hp} {a : Addr} {vs : List V} (h : SqT K H a vs) : TyX K H (.ref a) (.type "tuple") := by
  rcases h with (h | ⟨o, h⟩) | ⟨o, its, n, hk, hc, _⟩
  · exact .base (.tup h)
  · exact .fTuple h
  · exact .kTuple hk hc
theorem TyDX.tyX {H : Hp} {x : D} {t : Value} {v : V} (h : TyDX K O x t) (a : Hd K I O H) (r : Rep K I x v) : TyX K H v t := by
  cases h with
  | non => cases r; exact .base .non
  | bl => cases r; exact .base (.bl _)
  | int => cases r; exact .base (.int _)
  | str => cases r; exact .base (.str _)
  | tup =>
    obtain ⟨p, vs, rfl, h1, _⟩ := tup_seq a r
    exact sqT_ty h1
  | lst =>
    obtain ⟨p, vs, rfl, h1, _⟩ := RdL.seq (O := O) .lst a r
    exact sqL_ty h1
  | lsk =>
    obtain ⟨p, vs, rfl, h1, _⟩ := RdL.seq (O := O) .lsk a r
    exact sqL_ty h1
  | cell h =>
    obtain ⟨p, vs, rfl, h1, _⟩ := RdL.seq (.cell h) a r
    exact sqL_ty h1
  | ins h ic =>
    obtain ⟨p, dx, fv, rfl, h1, _⟩ := h.at a r
    exact .base (.ins h1 ic.cl ic.ha ic.hn ic.tk ic.mr)
inductive ClsD : D → Value → Prop
  | ty {n} : ClsD (.ty n) (.type n)
  | own {C} : ClsD (.ptr C) (.ref C)
theorem ca_isi {x c : D} {t u : Value} {k : Bool} (hx : TyDX X.K O x t) (hc : ClsD c u) (hk : PySem.W.kitOne X.K t u = some k) (q : Q (.bl k) O) : CallD X B (.builtin "isinstance") [x, c] O Q :=
  CallD.of call_isi fun I H vs a _ r => by
    obtain ⟨v, w, rfl, r1, r2⟩ := reps2 r
    refine ⟨v, w, t, u, k, rfl, ?_, hx.tyX a r1, hk, .of a (Same.refl _) .bl q⟩
    cases hc with
    | ty => cases r2; exact .ty _
    | own => cases r2; exact .own _
/-! ### cells let stand for ever -/
def FzR (d : D) (O : OH) (d' : D) (O' : OH) : Prop := ∀ K I H v, Hd K I O H → Rep K I d v → ∃ J, Same I J ∧ Hd K J O' H ∧ Rep K J d' v
theorem FzR.refl {d : D} : FzR d O d O := fun K I H v a r => ⟨I, Same.refl _, a, r⟩
theorem FzR.weak {d : D} (h : SubO O' O) : FzR d O d O' := fun K I H v a r => ⟨I, Same.refl _, a.weak h, r⟩
theorem FzR.trans {d d1 d2 : D} {O1 O2 : OH} (a : FzR d O d1 O1) (b : FzR d1 O1 d2 O2) : FzR d O d2 O2 := fun K I H v h r =>
  let ⟨J, s, h1, r1⟩ := a K I H v h r
  let ⟨J2, s2, h2, r2⟩ := b K J H v h1 r1
  ⟨J2, s.trans s2, h2, r2⟩
theorem frz_lst {l : Addr} {ds : List D} (h : O l = some (.lst ds)) : FzR (.ptr l) O (.lst ds) (delO O l) := fun K I H v a r => by
  cases r
  obtain ⟨_, vs, h1, h2⟩ := a.cel _ _ h
  obtain ⟨s, a'⟩ := a.freeze h h1
  exact ⟨_, s, a', .lst upd_same (h2.mono s)⟩
/-- every mention of one cell told by value -/
inductive Frz1 (l : Addr) (d' : D) : List (Str × D) → List (Str × D) → Prop
  | nil : Frz1 l d' [] []
  | keep {f d fs gs} : Frz1 l d' fs gs → Frz1 l d' ((f, d) :: fs) ((f, d) :: gs)
  | put {f fs gs} : Frz1 l d' fs gs → Frz1 l d' ((f, .ptr l) :: fs) ((f, d') :: gs)
theorem Frz1.rep {l : Addr} {d' : D} {fs gs : List (Str × D)} {fv : List (Str × V)} (h : Frz1 l d' fs gs) (hl : Rep K I d' (.ref l)) (r : RepF K I fs fv) : RepF K I gs fv := by
  induction h generalizing fv with
  | nil => exact r
  | keep _ ih => cases r with | cons r1 r2 => exact .cons r1 (ih r2)
  | put _ ih => cases r with | cons r1 r2 => cases r1; exact .cons hl (ih r2)
/-- a list that an instance holds -/
theorem frz_in {x l C : Addr} {ds : List D} {d : D} {fs gs : List (Str × D)} (hx : O x = some (.ins C fs)) (h : O l = some (.lst ds)) (hf : Frz1 l (.lst ds) fs gs) : FzR d O d (updO (delO O l) x (.ins C gs)) := fun K I H v a r => by
  obtain ⟨_, vs, h1, h2⟩ := a.cel _ _ h
  obtain ⟨s, a'⟩ := a.freeze h h1
  have hne : x ≠ l := fun e => by rw [e, h] at hx; cases hx
  obtain ⟨n1, dx, fv, h3, h4⟩ := a.cel _ _ hx
  refine ⟨_, s, ⟨a'.sub, fun b c e => ?_⟩, r.mono s⟩
  by_cases hb : b = x
  · subst hb
    rw [updO_same] at e
    cases e
    refine ⟨by rw [upd_ne hne]; exact n1, dx, fv, h3, hf.rep (.lst upd_same (h2.mono s)) (h4.mono s)⟩
  · rw [updO_ne hb] at e
    exact a'.cel b c e
theorem frz_ins {x C : Addr} {fs : List (Str × D)} (h : O x = some (.ins C fs)) : FzR (.ptr x) O (.obj C fs) (delO O x) := fun K I H v a r => by
  cases r
  obtain ⟨_, dx, fv, h1, h2⟩ := a.cel _ _ h
  obtain ⟨s, a'⟩ := a.freeze h h1
  exact ⟨_, s, a', .obj upd_same (h2.mono s)⟩
theorem de_frz (h : DE X B e δ O fun d O1 => ∃ d' O', FzR d O1 d' O' ∧ Q d' O') : DE X B e δ O Q := fun σ H I e1 h1 b1 => tE_mono (h σ H I e1 h1 b1) fun v H1 ⟨I1, O1, d, s1, h2, r, d', O', f, q⟩ =>
  let ⟨J, s2, h3, r2⟩ := f _ _ _ _ h2 r
  ⟨J, O', d', s1.trans s2, h3, r2, q⟩
/-! ### f-strings -/
theorem de_fmtS (h : DE X B e δ O fun d O1 => ∃ y : Str, d = .str y ∧ y.length ≤ sizeLine ∧ Q (.str y) O1) : DE X B (.FormattedValue e (-1) none pos) δ O Q :=
  DE.of (pe_fmt selfE) fun σ H I e1 h1 b1 => tE_mono (h σ H I e1 h1 b1) fun x H1 ⟨I1, O1, d, s1, h2, r, y, hd, hl, q⟩ => by
    subst hd
    cases r
    exact .inl ⟨y, rfl, hl, .of h2 s1 .str q⟩
theorem de_fmtI (h : DE X B e δ O fun d O1 => ∃ i : Int, d = .int i ∧ i.natAbs.log2 < 1920 ∧ Q (.str (toString i)) O1) : DE X B (.FormattedValue e (-1) none pos) δ O Q :=
  DE.of (pe_fmt selfE) fun σ H I e1 h1 b1 => tE_mono (h σ H I e1 h1 b1) fun x H1 ⟨I1, O1, d, s1, h2, r, i, hd, hl, q⟩ => by
    subst hd
    cases r
    exact .inr ⟨i, rfl, hl, .of h2 s1 .str q⟩
def DJs (X : Cx) (B : Hp) : List Expr → Str → EN → OH → (Str → OH → Prop) → Prop
  | [], acc, _, O, Q => Q acc O
  | e :: es, acc, δ, O, Q => DE X B e δ O fun d O1 => ∃ y : Str, d = .str y ∧ (acc ++ y).length ≤ sizeLine ∧ DJs X B es (acc ++ y) δ O1 Q
theorem pj_self : ∀ {es : List Expr}, PJ X es (es.map (tE X))
  | [] => .nil
  | _ :: _ => .cons selfE pj_self
theorem js_run {Q : Str → OH → Prop} : ∀ {es : List Expr} {acc : Str} {O : OH} {σ : L2.St} {H I : Hp} {J : Hp}, DJs X B es acc δ O Q → EOk X.K I σ δ → Hd X.K I O H → Same B I → Same J I → tJs (es.map (tE X)) acc σ H fun out H1 => ∃ I1 O1, Same J I1 ∧ Hd X.K I1 O1 H1 ∧ Q out O1
  | [], acc, O, σ, H, I, J, h, e1, h1, b1, s0 => ⟨I, O, s0, h1, h⟩
  | e :: es, acc, O, σ, H, I, J, h, e1, h1, b1, s0 => tE_mono (h σ H I e1 h1 b1) fun x H1 ⟨I1, O1, d, s1, h2, r, y, hd, hl, q⟩ => by
    subst hd
    cases r
    exact ⟨y, rfl, hl, js_run q (e1.mono s1) h2 (b1.trans s1) (s0.trans s1)⟩
theorem tJs_mono {ts : List TE} (hm : ∀ t ∈ ts, ∀ σ H (Q R : VK), t σ H Q → (∀ v H, Q v H → R v H) → t σ H R) : ∀ {acc : Str} {σ : L2.St} {H : Hp} {Q R : Str → Hp → Prop}, tJs ts acc σ H Q → (∀ x H, Q x H → R x H) → tJs ts acc σ H R := by
  induction ts with
  | nil => exact fun h k => k _ _ h
  | cons t ts ih => exact fun h k => hm t List.mem_cons_self _ _ _ _ h fun v H1 ⟨y, e, l, q⟩ => ⟨y, e, l, ih (fun t ht => hm t (List.mem_cons_of_mem _ ht)) q k⟩
theorem de_joined {v1 v2 : Expr} {rest : List Expr} (h : DJs X B (v1 :: v2 :: rest) Str.empty δ O fun out O1 => Q (.str out) O1) : DE X B (.JoinedStr (v1 :: v2 :: rest) pos) δ O Q :=
  DE.of (pe_joined pj_self) fun σ H I e1 h1 b1 => by
    refine tJs_mono (fun t ht => ?_) (js_run h e1 h1 b1 (Same.refl _)) fun x H1 ⟨I1, O1, s, a, q⟩ => .of a s .str q
    obtain ⟨e, _, rfl⟩ := List.mem_map.mp ht
    exact fun σ H Q R h k => tE_mono h k
/-! ### a try whose body raises nothing -/
theorem ds_try0 {body : List Stmt} {h0 : ExceptHandler} {hs : List ExceptHandler} (h : DSs X.nox B body E δ O) : DS X B (.Try body (h0 :: hs) [] [] pos) E δ O :=
  DS.of (ps_try_thru0 selfSs) fun σ H I e1 h1 b1 => h σ H I e1 h1 b1
end
end DL

namespace DL
open PySem PySem.Spec PyProof.Rows L2
inductive In (x : Str) : List Str → Prop
  | here {l} : In x (x :: l)
  | there {y l} : In x l → In x (y :: l)
theorem In.mem {x : Str} {l : List Str} (h : In x l) : x ∈ l := by
  induction h with
  | here => exact List.mem_cons_self
  | there _ ih => exact List.mem_cons_of_mem _ ih
/-- what is known of a def's context: its slots, the names that may be read, those that may be written, the globals -/
structure Ctx (X : Cx) (N V L G : List Str) : Prop where
  hN : X.N = N
  nd : X.N.Nodup
  vis : ∀ x, In x V → Vis X.env.scope x ∧ (x == ("__debug__" : Str)) = false ∧ (x == ("__classdict__" : Str)) = false
  loc : ∀ x, In x L → Loc X.env.scope x ∧ (X.fn x = true ∨ X.env.scope.names.lookup x = some .local)
  gl : ∀ x, In x G → Gl X x ∧ (x == ("__debug__" : Str)) = false ∧ x ≠ "__name__"
  calm : X.calm = true
section
variable {X : Cx} {N V L G : List Str} {x : Str}
theorem Ctx.Vis (c : Ctx X N V L G) (h : In x V) : L2.Vis X.env.scope x := (c.vis x h).1
theorem Ctx.vd (c : Ctx X N V L G) (h : In x V) : (x == ("__debug__" : Str)) = false := (c.vis x h).2.1
theorem Ctx.vc (c : Ctx X N V L G) (h : In x V) : (x == ("__classdict__" : Str)) = false := (c.vis x h).2.2
theorem Ctx.Loc (c : Ctx X N V L G) (h : In x L) : L2.Loc X.env.scope x := (c.loc x h).1
theorem Ctx.fn (c : Ctx X N V L G) (h : In x L) : X.fn x = true ∨ X.env.scope.names.lookup x = some .local := (c.loc x h).2
theorem Ctx.Gl (c : Ctx X N V L G) (h : In x G) : L2.Gl X x := (c.gl x h).1
theorem Ctx.gd (c : Ctx X N V L G) (h : In x G) : (x == ("__debug__" : Str)) = false := (c.gl x h).2.1
theorem Ctx.gn (c : Ctx X N V L G) (h : In x G) : x ≠ "__name__" := (c.gl x h).2.2
end
/-- what a def's table of names says -/
structure ScopeOk (V G : List Str) (sc : Scope) : Prop where
  vis : (V.all fun x => (sc.names.lookup x == some .local || sc.names.lookup x == some .cell) && !(x == ("__debug__" : Str)) && !(x == ("__classdict__" : Str))) = true
  gl : (G.all fun x => sc.names.lookup x == some .globalImplicit && !(x == ("__debug__" : Str)) && !(x == ("__name__" : Str))) = true
section
variable {M : Dis}
theorem fn_okC {P : Program} {w : World} {K : PySem.W.Frag} {mg : Str → Option Value} {base : Heap} {x qual : Str} {st : Stmt} {f : Addr} {fd : FuncData} {N ps V G : List Str} {k : Nat} {sp : SpD} (F : Fun K x qual st f fd) (S : FnScope N ps (defScope st)) (T : ScopeOk V G (defScope st))
    (len : ∀ ds O Q E, sp ds O Q E → ds.length = ps.length)
    (hb : ∀ (X : Cx) (B : Hp) (W : Addr → OH → Prop), X.prog = P → X.w = w → X.K = K → X.mg = mg → X.base = base → Ctx X N V V G → X.env.scope = defScope st → X.stack = X.env :: X.outer → X.env.frame = some X.env.locals → PassesOwn (model X.prog X.w) X.A X.env X.xe →
      (∀ hd : Option Value, PassesOwnAt (model X.prog X.w) (X.A.mark hd) X.A X.env X.xe) → Room k X.A →
      M.takes X (wx X.K B fun C _ O => ∃ O2, SubO O2 O ∧ W C O2) → ∀ ds O Q, sp ds O Q W →
      DSs X B (defBody st) ⟨fun _ O1 => ∃ O2, SubO O2 O1 ∧ Q .non O2, Q, fun _ _ => False, fun _ _ => False⟩ (startD N ds) O) :
    FnOk P w K mg base (M.cx P w) (k + 1) f fd ps (lift K sp) := by
  refine fn_okD F S len fun cdv A outer s H Ex B W hr tk ds O Q h => hb _ B W rfl rfl rfl rfl rfl ⟨rfl, S.nd, fun x hx => ?_, fun x hx => ?_, fun x hx => ?_, rfl⟩ rfl rfl rfl PassesOwn.leaving (fun hd => L2H.passesAt_of rfl hd) hr (M.imp tk fun cls d σ H ⟨C, I, O, δ, e1, e2, s1, h1, e3, O2, w, q⟩ => ⟨C, I, O2, δ, e1, e2, s1, h1.weak w, e3, q⟩) ds O Q h
  · have t := List.all_eq_true.mp T.vis x hx.mem
    simp only [Bool.and_eq_true, Bool.or_eq_true, Bool.not_eq_true', beq_iff_eq] at t
    obtain ⟨⟨t1, t2⟩, t3⟩ := t
    exact ⟨t1.elim (fun z => .inl z) fun z => .inr (.inl z), t2, t3⟩
  · have t := List.all_eq_true.mp T.vis x hx.mem
    simp only [Bool.and_eq_true, Bool.or_eq_true, Bool.not_eq_true', beq_iff_eq] at t
    exact ⟨t.1.1, .inl rfl⟩
  · have t := List.all_eq_true.mp T.gl x hx.mem
    simp only [Bool.and_eq_true, Bool.not_eq_true', beq_iff_eq] at t
    exact ⟨t.1.1, t.1.2, fun z => by have := t.2; rw [z] at this; exact absurd this (by decide)⟩
end
/-! ### the block of a comprehension -/
theorem relab {env : Env} : ∀ {names : List (Str × NameKind)} {x : Str} {k : NameKind}, names.lookup x = some k →
    ∃ k', (names.map fun (n, k) => if (k == NameKind.free && env.scope.kind == .function && env.kindOf n == some .cell) then (n, NameKind.cell) else (n, k)).lookup x = some k' ∧ (k' = k ∨ (k = .free ∧ k' = .cell))
  | [], _, _, h => by simp at h
  | (n, k0) :: r, x, k, h => by
    have ih := @relab env r x k
    show ∃ k', List.lookup x ((if (k0 == NameKind.free && env.scope.kind == .function && env.kindOf n == some .cell) = true then (n, NameKind.cell) else (n, k0)) :: _) = some k' ∧ _
    cases hx : x == n with
    | true =>
      simp only [List.lookup_cons, hx] at h
      cases h
      by_cases hc : (k0 == NameKind.free && env.scope.kind == .function && env.kindOf n == some .cell) = true
      · rw [if_pos hc]
        refine ⟨.cell, by simp [List.lookup_cons, hx], .inr ⟨?_, rfl⟩⟩
        rw [Bool.and_eq_true, Bool.and_eq_true] at hc
        exact beq_iff_eq.mp hc.1.1
      · rw [if_neg hc]
        exact ⟨k0, by simp [List.lookup_cons, hx], .inl rfl⟩
    | false =>
      simp only [List.lookup_cons, hx] at h
      obtain ⟨k', h1, h2⟩ := ih h
      refine ⟨k', ?_, h2⟩
      by_cases hc : (k0 == NameKind.free && env.scope.kind == .function && env.kindOf n == some .cell) = true
      · rw [if_pos hc]; simp only [List.lookup_cons, hx]; exact h1
      · rw [if_neg hc]; simp only [List.lookup_cons, hx]; exact h1
structure BlkNames (V L G : List Str) (sc : Scope) : Prop where
  vis : (V.all fun x => (sc.names.lookup x == some .local || sc.names.lookup x == some .cell || sc.names.lookup x == some .free) && !(x == ("__debug__" : Str)) && !(x == ("__classdict__" : Str))) = true
  loc : (L.all fun x => sc.names.lookup x == some .local) = true
  gl : (G.all fun x => sc.names.lookup x == some .globalImplicit && !(x == ("__debug__" : Str)) && !(x == ("__name__" : Str))) = true
theorem ctx_blk {X : Cx} {N V L G V' L' G' : List Str} {scope : Scope} (c : Ctx X N V L G) (T : BlkNames V' L' G' scope) (s : Shared) (H : Hp) (C : Addr) (cl : List (Str × Addr)) (fp : List Addr) : Ctx (Bk X scope s H C cl fp) N V' L' G' where
  hN := c.hN
  nd := c.nd
  vis := fun x hx => by
    have t := List.all_eq_true.mp T.vis x hx.mem
    simp only [Bool.and_eq_true, Bool.or_eq_true, Bool.not_eq_true', beq_iff_eq] at t
    obtain ⟨⟨t1, t2⟩, t3⟩ := t
    refine ⟨?_, t2, t3⟩
    rcases t1 with (t1 | t1) | t1 <;> obtain ⟨k, h1, h2⟩ := relab (env := X.env) t1
    · rcases h2 with h2 | ⟨h2, _⟩
      · subst h2; exact .inl h1
      · cases h2
    · rcases h2 with h2 | ⟨h2, _⟩
      · subst h2; exact .inr (.inl h1)
      · cases h2
    · rcases h2 with h2 | ⟨_, h2⟩
      · subst h2; exact .inr (.inr h1)
      · subst h2; exact .inr (.inl h1)
  loc := fun x hx => by
    have t := List.all_eq_true.mp T.loc x hx.mem
    simp only [beq_iff_eq] at t
    obtain ⟨k, h1, h2⟩ := relab (env := X.env) t
    rcases h2 with h2 | ⟨h2, _⟩
    · subst h2; exact ⟨.inl h1, .inr h1⟩
    · cases h2
  gl := fun x hx => by
    have t := List.all_eq_true.mp T.gl x hx.mem
    simp only [Bool.and_eq_true, Bool.not_eq_true', beq_iff_eq] at t
    obtain ⟨k, h1, h2⟩ := relab (env := X.env) t.1.1
    refine ⟨?_, t.1.2, fun z => by have := t.2; rw [z] at this; exact absurd this (by decide)⟩
    rcases h2 with h2 | ⟨h2, _⟩
    · subst h2; exact h1
    · cases h2
  calm := c.calm
def blkCheck (N : List Str) (sc scope : Scope) (own : List (Str × Nat)) : Bool :=
  scope.kind == .function && scope.names.all (fun y => scope.names.lookup y.1 == some y.2) && own.all (fun p => N[p.2]? == some p.1) &&
    scope.names.all (fun y => !(y.2 == .free) || (sc.names.lookup y.1 == some .cell || sc.names.lookup y.1 == some .free)) &&
    scope.names.all (fun y => !(y.2 == .local || y.2 == .cell) || ((own.map (·.1)).contains y.1 || !N.contains y.1))
theorem blk_ok {X : Cx} {N : List Str} {sc scope : Scope} {own : List (Str × Nat)} (hN : X.N = N) (hs : X.env.scope = sc) (h : blkCheck N sc scope own = true) : BlkOk X.N X.env.scope scope own := by
  rw [hN, hs]
  unfold blkCheck at h
  simp only [Bool.and_eq_true, List.all_eq_true, beq_iff_eq, Bool.or_eq_true, Bool.not_eq_true', beq_eq_false_iff_ne] at h
  obtain ⟨⟨⟨⟨h1, h2⟩, h3⟩, h4⟩, h5⟩ := h
  refine ⟨h1, fun y hy => h2 y hy, fun p hp => h3 p hp, fun y hy e => ?_, fun y hy e => ?_⟩
  · rcases h4 y hy with z | z
    · exact absurd e z
    · exact z
  · rcases h5 y hy with z | z
    · rcases e with e | e <;> rw [e] at z <;> simp at z
    · rcases z with z | z
      · exact .inl (by simpa using z)
      · exact .inr (by simpa using z)
section
variable {M : Dis} {X : Cx} {B : Hp} {e a b c tg iter elt : Expr} {es ifs : List Expr} {δ : EN} {O : OH} {Q R : D → OH → Prop} {E : ED} {pos : Pos} {scope : Scope} {own : List (Str × Nat)} {N V L G V' L' G' : List Str}
/-- what a comprehension is asked: a statement of the list so far -/
def LcD (X : Cx) (B : Hp) (scope : Scope) (vs : List Nat) (tg iter elt : Expr) (ifs : List Expr) (δ : EN) (O : OH) (F : Addr → OH → Prop) : Prop :=
  DI X B tg iter δ O fun items Stn O1 => ∀ l, O1 l = none → ∃ P : Nat → List D → OH → Prop, P 0 [] (updO O1 l (.lst [])) ∧ (∀ i acc O', P i acc O' → Stn O') ∧
      (∀ i x acc O', items[i]? = some x → P i acc O' → DGb X B scope vs tg x (wipeD δ vs) O' fun δ2 O2 => DPb X B scope ifs δ2 O2 fun k O3 =>
        (k = true → DEb X B scope elt δ2 O3 fun d O4 => O4 l = some (.lst acc) ∧ acc.length < sizeLine ∧ P (i + 1) (acc ++ [d]) (updO O4 l (.lst (acc ++ [d])))) ∧ (k = false → P (i + 1) acc O3)) ∧
      ∀ acc O', P items.length acc O' → F l O'
theorem c_lc {sc : Scope} (c : Ctx X N V L G) (hsc : X.env.scope = sc) (ok : blkCheck N sc scope own = true) (T : BlkNames V' L' G' scope) (h : BlkNames V' L' G' scope → LcD X B scope (own.map (·.2)) tg iter elt ifs δ O fun l O' => Q (.ptr l) O')
    (hs : ∀ x, foldedSetIterable iter X.env x = pure x := by intro _; rfl) : DE X B (.ListComp elt [⟨tg, iter, ifs, 0⟩] scope pos) δ O Q := de_lc c.calm c.nd rfl (blk_ok c.hN hsc ok) (h T) hs
def swapCheck (sc scope : Scope) (y : Str) (p : Pos) (q : Pos) : Bool :=
  (if sc.kind.isAnnotationScope then ScopeKind.function else sc.kind) == .function && sc.names.lookup y == some .local && p.line == q.line && !(scope.names.any fun (n, k) => n == y && (k == .local || k == .cell))
theorem c_setLc {sc : Scope} {y : Str} {py spos : Pos} {i : Nat} (c : Ctx X N V L G) (hsc : X.env.scope = sc) (ok : blkCheck N sc scope own = true) (hw : swapCheck sc scope y py pos = true) (hix : IxOf N y i) (T : BlkNames V' L' G' scope)
    (h : BlkNames V' L' G' scope → LcD X B scope (own.map (·.2)) tg iter elt ifs δ O fun l O' => E.nx (δ.set i (some (.ptr l))) O') (hs : ∀ x, foldedSetIterable iter X.env x = pure x := by intro _; rfl) :
    DS X B (.Assign [.Name y py] (.ListComp elt [⟨tg, iter, ifs, 0⟩] scope pos) spos) E δ O := by
  have e : swapsWith (.ListComp elt [⟨tg, iter, ifs, 0⟩] scope pos) (some (.Name y py)) spos.line X.env = pure (swapCheck sc scope y py pos) := by
    rw [← hsc]
    rfl
  rw [hw] at e
  refine ds_setLc c.calm c.hN c.nd rfl (blk_ok c.hN hsc ok) ?_ e hix (h T) hs
  unfold swapCheck at hw
  simp only [Bool.and_eq_true, beq_iff_eq] at hw
  rw [hsc]
  exact hw.1.1.2
theorem c_name {x : Str} {d : D} (c : Ctx X N V L G) (hs : NmAt N δ x d) (hv : In x V) (q : Q d O) : DE X B (.Name x pos) δ O Q := de_name c.hN hs (c.Vis hv) q (c.vd hv) (c.vc hv)
theorem cg_name {x : Str} {d : D} {δ' : EN} {Q : EN → OH → Prop} (c : Ctx X N V L G) (hs : SetS N δ x d δ') (hl : In x L) (q : Q δ' O) : DG X B (.Name x pos) d δ O Q := dg_name c.hN c.nd hs q (c.Loc hl) (c.fn hl)
theorem cgb_name {x : Str} {d : D} {δ' : EN} {i : Nat} {vs : List Nat} {Q : EN → OH → Prop} (c : Ctx X N V L G) (T : BlkNames V' L' G' scope) (hi : IxOf N x i) (hl : In x L') (hv : i ∈ vs) (hs : δ.set i (some d) = δ') (q : Q δ' O) : DGb X B scope vs (.Name x pos) d δ O Q :=
  dgb_name c.hN c.nd hi hv hs q (fun s H0 C cl fp => (ctx_blk c T s H0 C cl fp).Loc hl) fun s H0 C cl fp => (ctx_blk c T s H0 C cl fp).fn hl
theorem c_augI {x : Str} {px : Pos} {i : Int} (c : Ctx X N V L G) (hs : NmAt N δ x (.int i)) (hl : In x L) (h : DE X B e δ O fun d O1 => ∃ j δ', d = .int j ∧ SetS N δ x (.int (i + j)) δ' ∧ E.nx δ' O1)
 : DS X B (.AugAssign (.Name x px) .Add e pos) E δ O := ds_augI c.hN c.nd hs h (c.Loc hl) (c.fn hl)
end
end DL

namespace DL
open PySem PySem.Spec PyProof.Rows L2
theorem fldW {O : OH} {C l : Addr} {f : Str} {d : D} {fs fs' : List (Str × D)} {R : OH → Prop} (h1 : O l = some (.ins C fs)) (h2 : Put fs f d fs') (h3 : fs.length < 1000) (q : R (updO O l (.ins C fs'))) :
    ∃ l' fs fs', D.ptr l = D.ptr l' ∧ O l' = some (.ins C fs) ∧ Put fs f d fs' ∧ fs.length < 1000 ∧ R (updO O l' (.ins C fs')) := ⟨l, fs, fs', rfl, h1, h2, h3, q⟩
theorem fldR {O : OH} {C : Addr} {x d : D} {f : Str} {fs : List (Str × D)} {R : D → Prop} (h1 : RdI O x C fs) (h2 : Fld fs f d) (q : R d) : ∃ fs d, RdI O x C fs ∧ Fld fs f d ∧ R d := ⟨fs, d, h1, h2, q⟩
theorem ownR {O : OH} {C : Addr} {x : D} {f : Str} {fs : List (Str × D)} {R : Prop} (h1 : RdI O x C fs) (h2 : NoFld fs f) (q : R) : ∃ fs, RdI O x C fs ∧ NoFld fs f ∧ R := ⟨fs, h1, h2, q⟩
theorem proR {O : OH} {C : Addr} {x : D} {fs : List (Str × D)} {R : Prop} (h1 : RdI O x C fs) (q : R) : ∃ fs, RdI O x C fs ∧ R := ⟨fs, h1, q⟩
/-! ### cells that change -/
theorem updO_upd {O : OH} {a : Addr} {c d : Cell} : updO (updO O a c) a d = updO O a d := by
  funext b
  unfold updO
  split <;> rfl
theorem delO_self {O : OH} {x : Addr} : delO O x x = none := by unfold delO; rw [if_pos rfl]
theorem delO_none {O : OH} {x a : Addr} (h : O a = none) : delO O x a = none := by unfold delO; split <;> first | rfl | exact h
theorem delO_sub {O : OH} {x : Addr} : SubO (delO O x) O := fun a c e => by unfold delO at e; split at e; · cases e
                                                                            · exact e
theorem subO_new {O O' : OH} {a : Addr} {c : Cell} (hn : O a = none) (h : SubO O O') : SubO O (updO O' a c) := h.new hn
theorem zipR {O : OH} {x y : D} {ds es : List D} {R : List D → List D → Prop} (h1 : RdL O x ds) (h2 : RdL O y es) (q : R ds es) : ∃ x' y' ds es, [x, y] = [x', y'] ∧ RdL O x' ds ∧ RdL O y' es ∧ R ds es := ⟨x, y, ds, es, rfl, h1, h2, q⟩
theorem rdR {O : OH} {x : D} {ds : List D} {R : List D → Prop} (h : RdL O x ds) (q : R ds) : ∃ ds, RdL O x ds ∧ R ds := ⟨ds, h, q⟩
theorem rng1R {j : Int} {R : Int → Prop} (h1 : -(2 ^ 62) ≤ j) (h2 : j < 2 ^ 62) (q : R j) : ∃ j', [D.int j] = [D.int j'] ∧ (-(2 ^ 62) ≤ j' ∧ j' < 2 ^ 62) ∧ R j' := ⟨j, rfl, ⟨h1, h2⟩, q⟩
theorem rng2R {i j : Int} {R : Int → Int → Prop} (h1 : -(2 ^ 62) ≤ i) (h2 : i < 2 ^ 62) (h3 : -(2 ^ 62) ≤ j) (h4 : j < 2 ^ 62) (q : R i j) : ∃ i' j', [D.int i, D.int j] = [D.int i', D.int j'] ∧ (-(2 ^ 62) ≤ i' ∧ i' < 2 ^ 62 ∧ -(2 ^ 62) ≤ j' ∧ j' < 2 ^ 62) ∧ R i' j' := ⟨i, j, rfl, ⟨h1, h2, h3, h4⟩, q⟩
theorem cut1 {ds : List D} : cutD ds (some 1) none = ds.drop 1 := by
  have e : HT.sIx ds.length 0 (some ((1 : Nat) : Int)) = min 1 ds.length := HT.sIx_nat _ _ _
  show (ds.drop (HT.sIx ds.length 0 (some ((1 : Nat) : Int)))).take (ds.length - HT.sIx ds.length 0 (some ((1 : Nat) : Int))) = _
  rw [e]
  cases ds with
  | nil => rfl
  | cons d ds =>
    have e : min 1 (d :: ds).length = 1 := by simp only [List.length_cons]; omega
    rw [e]
    exact List.take_of_length_le (by simp)
theorem lgB {i : Int} (h : -(2 ^ 250) < i) (h2 : i < 2 ^ 250) : i.natAbs.log2 < 1920 :=
  PySem.Flt.log2_lt_of (by decide) (Nat.lt_of_lt_of_le (show i.natAbs < 2 ^ 250 by omega) (Nat.pow_le_pow_right (by decide) (by decide)))
theorem sretW {O O2 : OH} {Q : OH → Prop} (q : Q O2) (s : SubO O2 O) : ∃ O2, SubO O2 O ∧ Q O2 := ⟨O2, s, q⟩
theorem subO_put {O O' : OH} {a : Addr} {c : Cell} (hl : O' a = some c) (h : SubO O O') : SubO (updO O a c) O' := fun b d e => by
  by_cases hb : b = a
  · subst hb; rw [updO_same] at e; cases e; exact hl
  · rw [updO_ne hb] at e; exact h b d e
theorem c_raise {M : Dis} {X : Cx} {B : Hp} {δ : EN} {O : OH} {E : ED} {x m : Str} {C : Addr} {W : Addr → EN → OH → Prop} {j : Nat} {pos p p2 pos2 : Pos} (T : ErrC X.K X.mg x C) (tk : M.takes X (wx X.K B W)) (hc : X.calm = true) (hg : Gl X x) (q : W C δ O) (hd : (x == ("__debug__" : Str)) = false := by decide) :
    DS X B (.Raise (some (.Call (.Name x p) [.Constant (.str m) j p2] [] pos)) none pos2) E δ O := ds_raise T tk hc hg ⟨O, SubO.refl, q⟩ hd
theorem rdl_mono {O O' : OH} {r : D} {ds : List D} (h : RdL O r ds) (s : SubO O O') : RdL O' r ds := by
  cases h with
  | lst => exact .lst
  | lsk => exact .lsk
  | cell h => exact .cell (s _ _ h)
theorem cb_name {X : Cx} {B : Hp} {δ : EN} {O : OH} {pos : Pos} {scope : Scope} {N V L G V' L' G' : List Str} {x : Str} {d : D} {δ' : EN} {i : Nat} {vs : List Nat} {Q : EN → OH → Prop} (c : Ctx X N V L G) (T : BlkNames V' L' G' scope) (hi : IxOf N x i) (hl : In x L') (hv : i ∈ vs) (hs : SetS N δ x d δ') (q : Q δ' O) : DGb X B scope vs (.Name x pos) d δ O Q := by
  obtain ⟨j, hj, e⟩ := hs.ix
  have nd := c.nd
  have hN := c.hN
  rw [← hN] at hj
  have : j = i := nodup_ix nd hj (by rw [hN]; exact hi.get)
  subst this
  exact cgb_name c T hi hl hv e q
section
variable {X : Cx} {B : Hp} {δ : EN} {O : OH} {pos : Pos} {e : Expr} {es : List Expr} {Q : D → OH → Prop}
def FmtD (d : D) (R : Str → Prop) : Prop := (∃ y : Str, d = .str y ∧ y.length ≤ sizeLine ∧ R y) ∨ ∃ i : Int, d = .int i ∧ i.natAbs.log2 < 1920 ∧ R (toString i)
theorem fmtS {y : Str} {R : Str → Prop} (h : y.length ≤ sizeLine) (q : R y) : FmtD (.str y) R := .inl ⟨y, rfl, h, q⟩
theorem fmtI {i : Int} {R : Str → Prop} (h : i.natAbs.log2 < 1920) (q : R (toString i)) : FmtD (.int i) R := .inr ⟨i, rfl, h, q⟩
theorem de_fmt (h : DE X B e δ O fun d O1 => FmtD d fun y => Q (.str y) O1) : DE X B (.FormattedValue e (-1) none pos) δ O Q :=
  DE.of (pe_fmt selfE) fun σ H I e1 h1 b1 => tE_mono (h σ H I e1 h1 b1) fun x H1 ⟨I1, O1, d, s1, h2, r, q⟩ => by
    rcases q with ⟨y, hd, hl, q⟩ | ⟨i, hd, hl, q⟩
    · subst hd; cases r; exact .inl ⟨y, rfl, hl, .of h2 s1 .str q⟩
    · subst hd; cases r; exact .inr ⟨i, rfl, hl, .of h2 s1 .str q⟩
theorem djs_nil {acc : Str} {Q : Str → OH → Prop} (q : Q acc O) : DJs X B [] acc δ O Q := q
theorem djs_cons {acc : Str} {Q : Str → OH → Prop} (h : DE X B e δ O fun d O1 => ∃ y : Str, d = .str y ∧ (acc ++ y).length ≤ sizeLine ∧ DJs X B es (acc ++ y) δ O1 Q) : DJs X B (e :: es) acc δ O Q := h
end
theorem strlen_app (x y : Str) : (x ++ y).length = x.length + y.length := by rw [TL.len_tl, TL.len_tl, TL.len_tl, TL.tl_append, List.length_append]
theorem strlen_nil : Str.empty.length = 0 := rfl
end DL

namespace DL
open PySem PySem.Spec PyProof.Rows L2
/-! ### equality of plain data -/
theorem plo_rdl {O : OH} {x : D} {ds : List D} {ps : List PyData} (h : RdL O x ds) (p : Pls ds ps) : PlO O x (.list ps) := by
  cases h with
  | lst => exact .pl (.lst p)
  | lsk => exact .pl (.lsk p)
  | cell h => exact .cell h p
theorem pls_map {α : Type} {f : α → D} {g : α → PyData} (h : ∀ x, Pl (f x) (g x)) : ∀ l : List α, Pls (l.map f) (l.map g)
  | [] => .nil
  | x :: l => .cons (h x) (pls_map h l)
theorem lay_map {α : Type} {g : α → PyData} : ∀ {l : List α}, (∀ x ∈ l, (g x).canLay0 = true) → PyData.canLayAll0 (l.map g) = true
  | [], _ => rfl
  | x :: l, h => by
    rw [List.map_cons]
    show (PyData.canLay0 (g x) && PyData.canLayAll0 (l.map g)) = true
    rw [h x List.mem_cons_self, lay_map fun y hy => h y (List.mem_cons_of_mem _ hy)]
    rfl
theorem depth_map {α : Type} {g : α → PyData} {n : Nat} : ∀ {l : List α}, (∀ x ∈ l, (g x).depth ≤ n) → PyData.depthAll (l.map g) ≤ n
  | [], _ => Nat.zero_le _
  | x :: l, h => by
    rw [List.map_cons]
    show max (PyData.depth (g x)) (PyData.depthAll (l.map g)) ≤ n
    exact Nat.max_le.mpr ⟨h x List.mem_cons_self, depth_map fun y hy => h y (List.mem_cons_of_mem _ hy)⟩
theorem shaped_list {α : Type} {g : α → PyData} {l : List α} (h : ∀ x ∈ l, (g x).canLay0 = true) (hd : ∀ x ∈ l, (g x).depth ≤ 60) : SeqAt.shaped (.list (l.map g)) = true := by
  unfold SeqAt.shaped
  rw [show PyData.canLay0 (.list (l.map g)) = PyData.canLayAll0 (l.map g) from rfl, lay_map h]
  have := depth_map (l := l) hd
  rw [show PyData.depth (.list (l.map g)) = PyData.depthAll (l.map g) + 1 from rfl, decide_eq_true (show PyData.depthAll (l.map g) + 1 ≤ 64 by omega)]
  rfl
theorem shaped_tup {α : Type} {g : α → PyData} {l : List α} (h : ∀ x ∈ l, (g x).canLay0 = true) (hd : ∀ x ∈ l, (g x).depth ≤ 60) : SeqAt.shaped (.tuple (l.map g)) = true := shaped_list h hd
theorem eqvAll_map {α : Type} [DecidableEq α] {g : α → PyData} (h : ∀ x y, PyData.eqv (g x) (g y) = decide (x = y)) : ∀ l m : List α, PyData.eqvAll (l.map g) (m.map g) = decide (l = m)
  | [], [] => rfl
  | [], _ :: _ => rfl
  | _ :: _, [] => rfl
  | x :: l, y :: m => by
    show (PyData.eqv (g x) (g y) && PyData.eqvAll (l.map g) (m.map g)) = _
    rw [h, eqvAll_map h l m]
    by_cases hx : x = y
    · subst hx
      by_cases hl : l = m
      · subst hl; simp
      · rw [decide_eq_false hl, decide_eq_false (fun e => hl (List.cons.inj e).2)]; simp
    · rw [decide_eq_false hx, decide_eq_false (fun e => hx (List.cons.inj e).1)]; rfl
def pPair (p : Int × Int) : PyData := .tuple [.int p.1, .int p.2]
def dPair (p : Int × Int) : D := .tup [.int p.1, .int p.2]
theorem pl_pair (p : Int × Int) : Pl (dPair p) (pPair p) := .tup (.cons .int (.cons .int .nil))
theorem eqv_pair (p q : Int × Int) : PyData.eqv (pPair p) (pPair q) = decide (p = q) := by
  obtain ⟨a, b⟩ := p
  obtain ⟨c, d⟩ := q
  show ((a == c) && ((b == d) && true)) = _
  by_cases h1 : a = c
  · subst h1
    by_cases h2 : b = d
    · subst h2; simp
    · simp [h2]
  · simp [h1]
theorem eqv_str (x y : Str) : PyData.eqv (.str x) (.str y) = decide (x = y) := by
  show (x == y) = _
  by_cases h : x = y
  · subst h; simp
  · rw [decide_eq_false h]; simpa using h
section
variable {X : Cx} {B : Hp} {O : OH} {Q : D → OH → Prop} {x y : D} {n : Nat}
theorem cm_eqPs {ps qs : List (Int × Int)} (hr : Room n X.A) (h1 : RdL O x (ps.map dPair)) (h2 : RdL O y (qs.map dPair)) (q : Q (.bl (decide (ps = qs))) O) : BinD X B (compareOp .Eq) x y O Q := by
  refine cm_eqD hr.units (plo_rdl h1 (pls_map pl_pair ps)) (plo_rdl h2 (pls_map pl_pair qs)) (shaped_list (fun _ _ => rfl) fun _ _ => (by decide : (1 : Nat) ≤ 60)) (shaped_list (fun _ _ => rfl) fun _ _ => (by decide : (1 : Nat) ≤ 60)) ?_
  rw [show PyData.eqv (.list (ps.map pPair)) (.list (qs.map pPair)) = PyData.eqvAll (ps.map pPair) (qs.map pPair) from rfl, eqvAll_map eqv_pair]
  exact q
theorem cm_nePs {ps qs : List (Int × Int)} (hr : Room n X.A) (h1 : RdL O x (ps.map dPair)) (h2 : RdL O y (qs.map dPair)) (q : Q (.bl (!decide (ps = qs))) O) : BinD X B (compareOp .NotEq) x y O Q := by
  refine cm_neD hr.units (plo_rdl h1 (pls_map pl_pair ps)) (plo_rdl h2 (pls_map pl_pair qs)) (shaped_list (fun _ _ => rfl) fun _ _ => (by decide : (1 : Nat) ≤ 60)) (shaped_list (fun _ _ => rfl) fun _ _ => (by decide : (1 : Nat) ≤ 60)) ?_
  rw [show PyData.eqv (.list (ps.map pPair)) (.list (qs.map pPair)) = PyData.eqvAll (ps.map pPair) (qs.map pPair) from rfl, eqvAll_map eqv_pair]
  exact q
theorem cm_neP {p r : Int × Int} (hr : Room n X.A) (q : Q (.bl (!decide (p = r))) O) : BinD X B (compareOp .NotEq) (.tup [.int p.1, .int p.2]) (.tup [.int r.1, .int r.2]) O Q := by
  refine cm_neD hr.units (.pl (pl_pair p)) (.pl (pl_pair r)) rfl rfl ?_
  rw [eqv_pair]
  exact q
theorem cm_eqP {p r : Int × Int} (hr : Room n X.A) (q : Q (.bl (decide (p = r))) O) : BinD X B (compareOp .Eq) (.tup [.int p.1, .int p.2]) (.tup [.int r.1, .int r.2]) O Q := by
  refine cm_eqD hr.units (.pl (pl_pair p)) (.pl (pl_pair r)) rfl rfl ?_
  rw [eqv_pair]
  exact q
theorem cm_neSs {ps qs : List Str} (hr : Room n X.A) (h1 : RdL O x (ps.map D.str)) (h2 : RdL O y (qs.map D.str)) (o1 : ∀ z ∈ ps, PyData.strOk z = true) (o2 : ∀ z ∈ qs, PyData.strOk z = true) (q : Q (.bl (!decide (ps = qs))) O) : BinD X B (compareOp .NotEq) x y O Q := by
  refine cm_neD hr.units (plo_rdl h1 (pls_map (fun _ => .str) ps)) (plo_rdl h2 (pls_map (fun _ => .str) qs)) (shaped_list (fun z hz => o1 z hz) fun _ _ => (by decide : (0 : Nat) ≤ 60)) (shaped_list (fun z hz => o2 z hz) fun _ _ => (by decide : (0 : Nat) ≤ 60)) ?_
  rw [show PyData.eqv (.list (ps.map PyData.str)) (.list (qs.map PyData.str)) = PyData.eqvAll (ps.map PyData.str) (qs.map PyData.str) from rfl, eqvAll_map eqv_str]
  exact q
end
theorem ok_tl {x : Str} : PyData.strOk x = (TL.tl x).all fun c => decide (c < 0x110000) := by
  unfold PyData.strOk
  rw [← Array.all_toList]
  try (simp; omega)
theorem ok_app {x y : Str} (h : PyData.strOk x = true) (h2 : PyData.strOk y = true) : PyData.strOk (x ++ y) = true := by
  rw [ok_tl] at h h2 ⊢
  rw [TL.tl_append, List.all_append, h, h2]; rfl
theorem ok_num (n : Nat) : PyData.strOk (Str.ofString (toString ((n : Nat) : Int))) = true := by
  rw [ok_tl, TL.tl_num, List.all_eq_true]
  intro c hc
  have := TL.numL_digits n c hc
  simp; omega
theorem none_sub {O O' : OH} {a : Addr} (n : O' a = none) (h : SubO O O') : O a = none := by
  cases e : O a with
  | none => rfl
  | some c => rw [h a c e] at n; cases n
theorem ctx_nox {X : Cx} {N V L G : List Str} (c : Ctx X N V L G) : Ctx X.nox N V L G := ⟨c.hN, c.nd, c.vis, c.loc, c.gl, c.calm⟩
section
variable {X : Cx} {B : Hp} {O : OH} {Q : D → OH → Prop}
theorem bi_mulX {i j : Int} (hc : CMulX i j) (q : Q (.int (i * j)) O) : BinD X B (binaryOp .Mult) (.int i) (.int j) O Q := bi_I (gd := fun i j => .int (i * j)) op_mulX (fun _ _ _ => .int) hc q
end
theorem map_atI {α : Type} {f : α → D} {l : List α} {i : Int} (h0 : 0 ≤ i) (h1 : i < l.length) : ∃ x, x ∈ l ∧ l[i.toNat]? = some x ∧ atI (l.map f) i = some (f x) := by
  have hl : i.toNat < l.length := by omega
  refine ⟨l[i.toNat], List.getElem_mem hl, List.getElem?_eq_getElem hl, ?_⟩
  unfold L2.atI L2.ixN
  rw [List.length_map, if_pos h0, if_pos h1]
  show (l.map f)[i.toNat]? = _
  rw [List.getElem?_map, List.getElem?_eq_getElem hl]
  rfl
/-- a statement's end told once, for all its ways -/
theorem ds_cut {X : Cx} {B : Hp} {st : Stmt} {E : ED} {δ : EN} {O : OH} (P : EN → OH → Prop) (h : DS X B st ⟨P, E.rt, E.bk, E.ct⟩ δ O) (k : ∀ δ' O', P δ' O' → E.nx δ' O') : DS X B st E δ O :=
  fun σ H I a b c => tS_mono (h σ H I a b c) (endsLe (Same.refl _) ⟨k, fun _ _ q => q, fun _ _ q => q, fun _ _ q => q⟩)
theorem subO_del {O O' : OH} {a : Addr} {c : Cell} (hl : O' a = some c) (h : SubO (delO O a) O') : SubO (updO O a c) O' := fun b d e => by
  by_cases hb : b = a
  · subst hb; rw [updO_same] at e; cases e; exact hl
  · rw [updO_ne hb] at e
    refine h b d ?_
    unfold delO
    rw [if_neg hb]
    exact e
theorem subO_dupd {O O' : OH} {a : Addr} {c : Cell} (h : SubO (delO O a) O') : SubO (delO O a) (updO O' a c) := subO_new delO_self h
theorem par_swap {env : Env} {sc : Scope} {x y : Str} {px py pt pt2 : Pos} {kt k2} {a b : Expr} (hsc : env.scope = sc) (hk : sc.kind = .function) (hx : sc.names.lookup x = some .local) (hy : sc.names.lookup y = some .local) (hl : (py.line == px.line) = true) (hxy : (y == x) = false)
    (hst : ([a, b].any fun | .Starred .. => true | _ => false) = false) (hf : [a, b].all (foldedForSure 8) = false) (hc : [a, b].all (constantsAlone 8) = false) :
    swappedStores [.Tuple [.Name x px, .Name y py] kt pt] (.Tuple [a, b] k2 pt2) env = pure (some [x, y]) := by
  have kb : env.blockKind = .function := by unfold Env.blockKind; rw [hsc, hk]; rfl
  have kx : env.kindOf x = some .local := by unfold Env.kindOf; rw [hsc]; exact hx
  have ky : env.kindOf y = some .local := by unfold Env.kindOf; rw [hsc]; exact hy
  unfold swappedStores
  simp only [kb, hf, hc, hst]
  have e2 : ([x, y] : List Str).eraseDups.length = 2 := by
    rw [List.eraseDups_cons]
    simp [List.filter, hxy, List.eraseDups_cons]
  simp [kx, ky, Expr.pos, beq_iff_eq.mp hl, e2]
  intro h
  simp only [List.any_cons, List.any_nil, Bool.or_false, Bool.or_eq_false_iff] at hst
  rcases h with h | h
  · exact Bool.noConfusion (h.symm.trans hst.1)
  · exact Bool.noConfusion (h.symm.trans hst.2)
section
variable {X : Cx} {B : Hp} {a b : Expr} {δ : EN} {O : OH} {E : ED} {pos : Pos} {N V L G : List Str}
theorem c_par {sc : Scope} {x y : Str} {px py pt : Pos} {kt k2 pt2} {i j : Nat} (c : Ctx X N V L G) (hsc : X.env.scope = sc) (hk : sc.kind = .function) (hx : sc.names.lookup x = some .local) (hy : sc.names.lookup y = some .local) (hl : (py.line == px.line) = true) (hxy : (y == x) = false)
    (hst : ([a, b].any fun | .Starred .. => true | _ => false) = false) (hf : [a, b].all (foldedForSure 8) = false) (hc : [a, b].all (constantsAlone 8) = false) (hix : IxOf N x i) (hiy : IxOf N y j)
    (h : DA X B [a, b] δ O fun ds O1 => ∃ d d' δ1 δ2, ds = [d, d'] ∧ SetS N δ x d δ1 ∧ SetS N δ1 y d' δ2 ∧ E.nx δ2 O1)
    (hs : swapsWithSole [.Tuple [.Name x px, .Name y py] kt pt] (.Tuple [a, b] k2 pt2) pos.line X.env = pure false := by rfl) :
    DS X B (.Assign [.Tuple [.Name x px, .Name y py] kt pt] (.Tuple [a, b] k2 pt2) pos) E δ O :=
  ds_par c.calm c.hN c.nd (fun e => by rw [e] at hxy; simp at hxy) h (par_swap hsc hk hx hy hl hxy hst hf hc) (by rw [hsc]; exact hx) (by rw [hsc]; exact hy) ⟨i, j, by rw [c.hN]; exact hix.get, by rw [c.hN]; exact hiy.get⟩ hs
theorem parR {x y : Str} {d d' : D} {δ1 δ2 : EN} {R : EN → Prop} (h1 : SetS N δ x d δ1) (h2 : SetS N δ1 y d' δ2) (q : R δ2) : ∃ e e' δ1 δ2, [d, d'] = [e, e'] ∧ SetS N δ x e δ1 ∧ SetS N δ1 y e' δ2 ∧ R δ2 := ⟨d, d', δ1, δ2, rfl, h1, h2, q⟩
end
end DL

-- what each program may add
local macro_rules | `(tactic| walk_at "X.n") => `(tactic| fail)
local macro_rules | `(tactic| walk_at "X.c") => `(tactic| fail)
local macro_rules | `(tactic| walk_at "X.v") => `(tactic| fail)
local macro_rules | `(tactic| walk_at "X.t") => `(tactic| fail)
local macro_rules | `(tactic| walk_at "X.k") => `(tactic| fail)
local macro_rules | `(tactic| walk_at "X.r") => `(tactic| fail)
-- names
local macro_rules | `(tactic| walk_at "D.in") => `(tactic| repeat (first | with_reducible exact DL.In.here | with_reducible apply DL.In.there))
local macro_rules | `(tactic| walk_at "D.nm") => `(tactic| repeat (first | with_reducible exact DL.NmAt.here | with_reducible apply DL.NmAt.there))
local macro_rules | `(tactic| walk_at "D.ss") => `(tactic| repeat (first | with_reducible exact DL.SetS.here | with_reducible apply DL.SetS.there))
local macro_rules | `(tactic| walk_at "D.ix") => `(tactic| repeat (first | with_reducible exact DL.IxOf.here | with_reducible apply DL.IxOf.there))
local macro_rules | `(tactic| walk_at "D.gl") => `(tactic| (refine' DL.Ctx.Gl ?hc ?hi; (case hc => with_reducible assumption); (case hi => walk_at "D.in")))
local macro_rules | `(tactic| walk_at "D.calm") => `(tactic| first | with_reducible assumption | (refine' DL.Ctx.calm ?hc; (case hc => with_reducible assumption)) | fail)
-- cells
local macro_rules | `(tactic| walk_at "D.lk") => `(tactic| first | (with_reducible exact DL.updO_same) | (with_reducible assumption) | (refine' DL.updO_get ?h1 ?h2; (case h1 => walk_at "D.ne"); (case h2 => walk_at "D.lk")) | fail)
local macro_rules | `(tactic| walk_at "D.ne") => `(tactic| first | (with_reducible assumption) | (with_reducible (apply Ne.symm; assumption)) | (refine' DL.ne_ofO2 ?h1 ?h2; (case h1 => with_reducible assumption); (case h2 => walk_at "D.lk")) | (apply Ne.symm; refine' DL.ne_ofO2 ?h1 ?h2; (case h1 => with_reducible assumption); (case h2 => walk_at "D.lk")) | fail)
local macro_rules | `(tactic| walk_at "D.rd") => `(tactic| first | with_reducible assumption | with_reducible exact DL.RdL.lst | with_reducible exact DL.RdL.lsk | (with_reducible apply DL.RdL.cell; walk_at "D.lk") | ((with_reducible refine' DL.rdl_mono ?hA ?hB); (case hA => with_reducible assumption); (case hB => walk_at "D.sub")) | fail)
local macro_rules | `(tactic| walk_at "D.ow") => `(tactic| first | with_reducible assumption | with_reducible exact DL.OwL.lst | (apply DL.OwL.cell; walk_at "D.lk") | fail)
local macro_rules | `(tactic| walk_at "D.ins") => `(tactic| first | with_reducible assumption | with_reducible exact DL.RdI.obj | (apply DL.RdI.cell; walk_at "D.lk") | fail)
local macro_rules | `(tactic| walk_at "D.fld") => `(tactic| repeat (first | with_reducible exact DL.Fld.here | ((with_reducible apply DL.Fld.there); (· decide))))
local macro_rules | `(tactic| walk_at "D.none") => `(tactic| first | with_reducible assumption | with_reducible exact DL.delO_self | (apply DL.delO_none; with_reducible assumption) | (with_reducible apply DL.none_sub; (· with_reducible assumption); (· walk_at "D.sub")) | (with_reducible apply DL.free_of; walk_at "D.none") | fail)
local macro_rules | `(tactic| walk_at "D.sub") => `(tactic| first | with_reducible exact DL.SubO.refl | with_reducible assumption | with_reducible exact DL.delO_sub | ((with_reducible refine' DL.subO_new ?hn ?h); (case hn => walk_at "D.none"); (case h => walk_at "D.sub")) | ((with_reducible refine' DL.SubO.trans ?hA ?hB); (case hB => with_reducible assumption); (case hA => walk_at "D.sub")) | fail)
-- side conditions
local macro_rules | `(tactic| walk_at "D.ari") => `(tactic| first | with_reducible assumption | omega | decide | (simp only [List.length_cons, List.length_nil, List.length_append, List.length_map]; first | omega | decide) | fail)
local macro_rules | `(tactic| walk_at "D.sz") => `(tactic| first | with_reducible assumption | decide | (simp only [PySem.sizeLine_eq, DL.strlen_app, DL.strlen_nil, show (PySem.Str.ofString " ").length = 1 from rfl, show (PySem.Str.ofString ":").length = 1 from rfl, show (PySem.Str.ofString ".").length = 1 from rfl] <;> omega) | (simp only [PySem.sizeLine_eq, List.length_cons, List.length_nil, List.length_append, List.length_map, List.length_replicate] <;> omega) | fail)
local macro_rules | `(tactic| walk_at "D.tyx") => `(tactic| first | with_reducible assumption | exact DL.TyDX.int | exact DL.TyDX.str | exact DL.TyDX.tup | exact DL.TyDX.bl | exact DL.TyDX.non | exact DL.TyDX.lst | exact DL.TyDX.lsk | (apply DL.TyDX.cell; walk_at "D.lk") | (refine' DL.TyDX.ins ?hI ?hC; (case hI => walk_at "D.ins"); (case hC => with_reducible assumption)) | walk_at "X.t" | fail)
local macro_rules | `(tactic| walk_at "D.kit") => `(tactic| first | with_reducible assumption | exact L2.kit_ty (r := true) (by decide +kernel) | exact L2.kit_ty (r := false) (by decide +kernel) | walk_at "X.k" | fail)
local macro_rules | `(tactic| walk_at "D.lg") => `(tactic| (refine DL.lgB ?_ ?_ <;> walk_at "D.ari"))
local macro_rules | `(tactic| walk_at "D.rdp") => `(tactic| first | with_reducible assumption | with_reducible exact DL.RdL.lst | (apply DL.RdL.cell; walk_at "D.lk") | (apply DL.RdL.cell; exact DL.updO_same (c := DL.Cell.lst (List.map DL.dPair []))) | ((with_reducible refine' DL.rdl_mono ?hA ?hB); (case hA => with_reducible assumption); (case hB => walk_at "D.sub")) | fail)
local macro_rules | `(tactic| walk_at "D.szj") => `(tactic| with_reducible assumption)
-- expressions
local macro_rules | `(tactic| walk_at "D.e") => `(tactic| first
  | ((with_reducible show DL.DE _ _ (PySem.Expr.Name _ _) _ _ _); first
    | (refine' DL.c_name ?hc ?hs ?hv ?q; (case hc => with_reducible assumption); (case hs => walk_at "D.nm"); (case hv => walk_at "D.in"))
    | walk_at "X.n" | walk_at "D.en")
  | ((with_reducible show DL.DE _ _ (PySem.Expr.Constant _ _ _) _ _ _); first | with_reducible refine DL.de_int ?_ | with_reducible refine DL.de_str ?_ | with_reducible refine DL.de_bl ?_ | with_reducible refine DL.de_non ?_)
  | ((with_reducible show DL.DE _ _ (PySem.Expr.Call (PySem.Expr.Name _ _) _ _ _) _ _ _); first | walk_at "X.c" | walk_at "D.own" | walk_at "D.call")
  | ((with_reducible show DL.DE _ _ (PySem.Expr.Subscript _ _ _) _ _ _); first | ((with_reducible show DL.DE _ _ (PySem.Expr.Subscript _ (PySem.Expr.Slice _ _ none _) _) _ _ _); refine DL.de_slice ?_) | refine DL.de_sub ?_)
  | ((with_reducible show DL.DE _ _ (PySem.Expr.BinOp _ _ _ _) _ _ _); refine DL.de_bin ?_)
  | ((with_reducible show DL.DE _ _ (PySem.Expr.Call (PySem.Expr.Attribute _ _ _) _ [] _) _ _ _); first | walk_at "X.c" | walk_at "D.meth")
  | ((with_reducible show DL.DE _ _ (PySem.Expr.Attribute _ _ _) _ _ _); walk_at "X.n")
  | ((with_reducible show DL.DE _ _ (PySem.Expr.Compare _ _ _ _) _ _ _); first | ((with_reducible show DL.DE _ _ (PySem.Expr.Compare _ [_] [_] _) _ _ _); refine DL.de_cmp (by first | exact L2.nomark _ | with_unfolding_all rfl) ?_) | refine DL.de_chain ?_)
  | ((with_reducible show DL.DE _ _ (PySem.Expr.Tuple _ _ _) _ _ _); refine DL.de_tup ?_)
  | ((with_reducible show DL.DE _ _ (PySem.Expr.List _ _) _ _ _); refine DL.de_list ?_)
  | ((with_reducible show DL.DE _ _ (PySem.Expr.BoolOp _ _ _) _ _ _); first | with_reducible refine DL.de_and1 ?_ | with_reducible refine DL.de_and ?_ | with_reducible refine DL.de_or ?_)
  | ((with_reducible show DL.DE _ _ (PySem.Expr.UnaryOp _ _ _) _ _ _); first | with_reducible refine DL.de_not ?_ | refine DL.de_neg (i := 0) ?_)
  | ((with_reducible show DL.DE _ _ (PySem.Expr.IfExp _ _ _ _) _ _ _); refine DL.de_if ?_)
  | ((with_reducible show DL.DE _ _ (PySem.Expr.JoinedStr _ _) _ _ _); refine DL.de_joined ?_)
  | ((with_reducible show DL.DE _ _ (PySem.Expr.FormattedValue _ _ _ _) _ _ _); refine DL.de_fmt ?_)
  | fail)
local macro_rules | `(tactic| walk_at "D.en") => `(tactic| first
  | ((with_reducible show DL.DE _ _ (PySem.Expr.Name (PySem.Str.ofString "int") _) _ _ _); refine DL.de_bltn (DL.Bi.int (by assumption)) (by walk_at "D.gl") DL.bt_int ?_)
  | ((with_reducible show DL.DE _ _ (PySem.Expr.Name (PySem.Str.ofString "bool") _) _ _ _); refine DL.de_bltn (DL.Bi.bool (by assumption)) (by walk_at "D.gl") DL.bt_bool ?_)
  | ((with_reducible show DL.DE _ _ (PySem.Expr.Name (PySem.Str.ofString "str") _) _ _ _); refine DL.de_bltn (DL.Bi.str (by assumption)) (by walk_at "D.gl") DL.bt_str ?_)
  | ((with_reducible show DL.DE _ _ (PySem.Expr.Name (PySem.Str.ofString "list") _) _ _ _); refine DL.de_bltn (DL.Bi.list (by assumption)) (by walk_at "D.gl") DL.bt_list ?_)
  | ((with_reducible show DL.DE _ _ (PySem.Expr.Name (PySem.Str.ofString "tuple") _) _ _ _); refine DL.de_bltn (DL.Bi.tuple (by assumption)) (by walk_at "D.gl") DL.bt_tuple ?_)
  | fail)
local macro_rules | `(tactic| walk_at "D.own") => `(tactic| first
  | (refine' DL.de_callX ?F ?tk ?hr ?hk ?hg ?h; (case F => with_reducible assumption); (case tk => with_reducible assumption); (case hr => with_reducible assumption); (case hk => decide); (case hg => walk_at "D.gl"))
  | (refine' DL.de_call ?F ?hr ?hk ?hg ?h; (case F => with_reducible assumption); (case hr => with_reducible assumption); (case hk => decide); (case hg => walk_at "D.gl"))
  | fail)
local macro_rules | `(tactic| walk_at "D.call") => `(tactic| first
  | ((with_reducible show DL.DE _ _ (PySem.Expr.Call (PySem.Expr.Name (PySem.Str.ofString "list") _) [PySem.Expr.Call (PySem.Expr.Name (PySem.Str.ofString "zip") _) _ _ _] _ _) _ _ _); refine DL.de_listZip (DL.Bi.list (by assumption)) (DL.Bi.zip (by assumption)) (by walk_at "D.calm") (by walk_at "D.gl") (by walk_at "D.gl") ?_)
  | ((with_reducible show DL.DE _ _ (PySem.Expr.Call (PySem.Expr.Name (PySem.Str.ofString "len") _) _ _ _) _ _ _); refine DL.de_callB (DL.Bi.len (by assumption)) (by walk_at "D.gl") DL.bt_len ?_)
  | ((with_reducible show DL.DE _ _ (PySem.Expr.Call (PySem.Expr.Name (PySem.Str.ofString "isinstance") _) _ _ _) _ _ _); refine DL.de_callB (DL.Bi.isinstance (by assumption)) (by walk_at "D.gl") DL.bt_isinstance ?_)
  | ((with_reducible show DL.DE _ _ (PySem.Expr.Call (PySem.Expr.Name (PySem.Str.ofString "min") _) _ _ _) _ _ _); refine DL.de_callB (DL.Bi.min (by assumption)) (by walk_at "D.gl") DL.bt_min ?_)
  | ((with_reducible show DL.DE _ _ (PySem.Expr.Call (PySem.Expr.Name (PySem.Str.ofString "max") _) _ _ _) _ _ _); refine DL.de_callB (DL.Bi.max (by assumption)) (by walk_at "D.gl") DL.bt_max ?_)
  | ((with_reducible show DL.DE _ _ (PySem.Expr.Call (PySem.Expr.Name (PySem.Str.ofString "abs") _) _ _ _) _ _ _); refine DL.de_callB (DL.Bi.abs (by assumption)) (by walk_at "D.gl") DL.bt_abs ?_)
  | ((with_reducible show DL.DE _ _ (PySem.Expr.Call (PySem.Expr.Name (PySem.Str.ofString "sum") _) _ _ _) _ _ _); refine DL.de_callB (DL.Bi.sum (by assumption)) (by walk_at "D.gl") DL.bt_sum ?_)
  | ((with_reducible show DL.DE _ _ (PySem.Expr.Call (PySem.Expr.Name (PySem.Str.ofString "sorted") _) _ _ _) _ _ _); refine DL.de_callB (DL.Bi.sorted (by assumption)) (by walk_at "D.gl") DL.bt_sorted ?_)
  | ((with_reducible show DL.DE _ _ (PySem.Expr.Call (PySem.Expr.Name (PySem.Str.ofString "list") _) _ _ _) _ _ _); refine DL.de_callT (DL.Bi.list (by assumption)) (by walk_at "D.gl") DL.bt_list ?_)
  | ((with_reducible show DL.DE _ _ (PySem.Expr.Call (PySem.Expr.Name (PySem.Str.ofString "int") _) _ _ _) _ _ _); refine DL.de_callT (DL.Bi.int (by assumption)) (by walk_at "D.gl") DL.bt_int ?_)
  | ((with_reducible show DL.DE _ _ (PySem.Expr.Call (PySem.Expr.Name (PySem.Str.ofString "str") _) _ _ _) _ _ _); refine DL.de_callT (DL.Bi.str (by assumption)) (by walk_at "D.gl") DL.bt_str ?_)
  | ((with_reducible show DL.DE _ _ (PySem.Expr.Call (PySem.Expr.Name (PySem.Str.ofString "tuple") _) _ _ _) _ _ _); refine DL.de_callT (DL.Bi.tuple (by assumption)) (by walk_at "D.gl") DL.bt_tuple ?_)
  | fail)
local macro_rules | `(tactic| walk_at "D.meth") => `(tactic| first
  | ((with_reducible show DL.DE _ _ (PySem.Expr.Call (PySem.Expr.Attribute _ (PySem.Str.ofString "append") _) _ _ _) _ _ _); refine DL.de_meth PySem.F.plainAttrs_list PySem.F.slot_list_append PySem.F.type_list_append ?_)
  | ((with_reducible show DL.DE _ _ (PySem.Expr.Call (PySem.Expr.Attribute _ (PySem.Str.ofString "extend") _) _ _ _) _ _ _); refine DL.de_meth PySem.F.plainAttrs_list PySem.F.slot_list_extend PySem.F.type_list_extend ?_)
  | ((with_reducible show DL.DE _ _ (PySem.Expr.Call (PySem.Expr.Attribute _ (PySem.Str.ofString "reverse") _) _ _ _) _ _ _); refine DL.de_meth0 PySem.F.plainAttrs_list PySem.F.slot_list_reverse PySem.F.type_list_reverse ?_)
  | ((with_reducible show DL.DE _ _ (PySem.Expr.Call (PySem.Expr.Attribute _ (PySem.Str.ofString "pop") _) _ _ _) _ _ _); refine DL.de_meth0 PySem.F.plainAttrs_list PySem.F.slot_list_pop PySem.F.type_list_pop ?_)
  | ((with_reducible show DL.DE _ _ (PySem.Expr.Call (PySem.Expr.Attribute _ (PySem.Str.ofString "join") _) _ _ _) _ _ _); refine DL.de_meth PySem.F.plainAttrs_str PySem.F.slot_str_join PySem.F.type_str_join ?_)
  | ((with_reducible show DL.DE _ _ (PySem.Expr.Call (PySem.Expr.Attribute _ (PySem.Str.ofString "split") _) _ _ _) _ _ _); refine DL.de_meth PySem.F.plainAttrs_str PySem.F.slot_str_split PySem.F.type_str_split ?_)
  | ((with_reducible show DL.DE _ _ (PySem.Expr.Call (PySem.Expr.Attribute _ (PySem.Str.ofString "partition") _) _ _ _) _ _ _); refine DL.de_meth PySem.F.plainAttrs_str PySem.F.slot_str_partition PySem.F.type_str_partition ?_)
  | fail)
-- operations on values
local macro_rules | `(tactic| walk_at "D.bin") => `(tactic| first
  | with_reducible refine DL.bi_add ?_
  | with_reducible refine DL.bi_sub ?_
  | with_reducible refine DL.cm_lt ?_
  | with_reducible refine DL.cm_le ?_
  | with_reducible refine DL.cm_eqI ?_
  | with_reducible refine DL.cm_eqS ?_
  | with_reducible refine DL.cm_neI ?_
  | with_reducible refine DL.cm_neS ?_
  | with_reducible refine DL.cm_gt ?_
  | with_reducible refine DL.cm_ge ?_
  | with_reducible refine DL.cm_inSign ?_
  | with_reducible refine DL.cm_notInSign ?_
  | ((with_reducible refine' DL.bi_mod ?hc ?q); (case hc => walk_at "D.ari"))
  | ((with_reducible refine' DL.bi_div ?hc ?q); (case hc => first | with_reducible assumption | (refine DL.cdivB ?_ ?_ <;> walk_at "D.ari")))
  | ((with_reducible refine' DL.bi_mul ?hc ?q); (case hc => first | with_reducible assumption | (refine DL.cmulB ⟨?_, ?_⟩ ⟨?_, ?_⟩ <;> walk_at "D.ari")))
  | ((with_reducible refine' DL.cm_nePs ?hr ?h1 ?h2 ?q); (case hr => with_reducible assumption); (case h1 => walk_at "D.rdp"); (case h2 => walk_at "D.rdp"))
  | ((with_reducible refine' DL.cm_eqPs ?hr ?h1 ?h2 ?q); (case hr => with_reducible assumption); (case h1 => walk_at "D.rdp"); (case h2 => walk_at "D.rdp"))
  | ((with_reducible refine' DL.bi_cat ?hl ?q); (case hl => walk_at "D.sz"))
  | ((with_reducible refine' DL.bi_pow ?hc ?qq); (case hc => exact ⟨by decide, by decide, by decide⟩); simp only [Int.reduceToNat, Int.reducePow])
  | walk_at "X.v"
  | fail)
local macro_rules | `(tactic| walk_at "D.cal") => `(tactic| first
  | with_reducible refine DL.ca_int ?_
  | ((with_reducible refine' DL.ca_len ?hr ?q); (case hr => walk_at "D.rd"))
  | with_reducible refine DL.ca_lenT ?_
  | ((with_reducible refine' DL.ca_lenS ?hz ?q); (case hz => walk_at "D.sz"))
  | ((with_reducible refine' DL.ca_strI ?hz ?q); (case hz => first | with_reducible assumption | walk_at "D.lg"))
  | ((with_reducible refine' DL.ca_isi ?hx ?hc ?hk ?q); (case hx => walk_at "D.tyx"); (case hc => first | exact DL.ClsD.ty | exact DL.ClsD.own); (case hk => walk_at "D.kit"))
  | ((with_reducible refine' DL.ca_list ?hr ?q); (case hr => walk_at "D.rd"); intro _ _)
  | ((with_reducible refine' DL.ca_tuple ?hr ?q); (case hr => walk_at "D.rd"))
  | ((with_reducible refine' DL.ca_min ?hr ?q); (case hr => walk_at "D.calm"))
  | ((with_reducible refine' DL.ca_max ?hr ?q); (case hr => walk_at "D.calm"))
  | with_reducible refine DL.ca_abs ?_
  | walk_at "X.v"
  | fail)
local macro_rules | `(tactic| walk_at "D.idx") => `(tactic| first
  | ((with_reducible refine' DL.ix_lstD ?h1 ?h2 ?q); (case h1 => walk_at "D.rd"); (case h2 => first | with_reducible assumption | rfl))
  | ((with_reducible refine' DL.ix_tupD ?h2 ?q); (case h2 => first | with_reducible assumption | rfl))
  | walk_at "X.v"
  | fail)
-- tests
local macro_rules | `(tactic| walk_at "D.t") => `(tactic| first
  | ((with_reducible show DL.DT _ _ (PySem.Expr.Compare _ _ _ _) _ _ _); first | ((with_reducible show DL.DT _ _ (PySem.Expr.Compare _ [_] [_] _) _ _ _); refine DL.dt_cmp (by first | exact L2.nomark _ | with_unfolding_all rfl) ?_) | refine DL.dt_chain ?_)
  | ((with_reducible show DL.DT _ _ (PySem.Expr.UnaryOp PySem.UnaryOp.Not _ _) _ _ _); refine DL.dt_not ?_)
  | ((with_reducible show DL.DT _ _ (PySem.Expr.BoolOp _ _ _) _ _ _); refine DL.dt_w ?_)
  | refine DL.dt_val ?_
  | fail)
-- statements, targets, arguments
local macro_rules | `(tactic| walk_at "D.ds") => `(tactic| first
  | ((with_reducible show DL.DS _ _ (PySem.Stmt.If _ _ _ _) _ _ _); refine DL.ds_if ?_)
  | ((with_reducible show DL.DS _ _ (PySem.Stmt.Return (some _) _) _ _ _); refine DL.ds_ret ?_)
  | ((with_reducible show DL.DS _ _ (PySem.Stmt.Return none _) _ _ _); refine DL.ds_retN ?_)
  | ((with_reducible show DL.DS _ _ (PySem.Stmt.Assign [PySem.Expr.Name _ _] (PySem.Expr.ListComp _ _ _ _) _) _ _ _); walk_at "X.r")
  | ((with_reducible show DL.DS _ _ (PySem.Stmt.Assign _ _ _) _ _ _); first | walk_at "X.r" | refine DL.ds_asg ?_)
  | ((with_reducible show DL.DS _ _ (PySem.Stmt.Expr _ _) _ _ _); refine DL.ds_expr ?_)
  | ((with_reducible show DL.DS _ _ (PySem.Stmt.AugAssign (PySem.Expr.Name _ _) PySem.Operator.Add _ _) _ _ _); refine' DL.c_augI ?hc ?hs ?hl ?h; (case hc => with_reducible assumption); (case hs => walk_at "D.nm"); (case hl => walk_at "D.in"))
  | walk_at "X.r"
  | fail)
local macro_rules | `(tactic| walk_at "D.dg") => `(tactic| first
  | ((with_reducible show DL.DG _ _ (PySem.Expr.Name _ _) _ _ _ _); refine' DL.cg_name ?hc ?hs ?hl ?q; (case hc => with_reducible assumption); (case hs => walk_at "D.ss"); (case hl => walk_at "D.in"))
  | ((with_reducible show DL.DG _ _ (PySem.Expr.Tuple _ _ _) _ _ _ _); refine' DL.dg_tup ?hc ?h ?hl; (case hc => walk_at "D.calm"); (case hl => rfl))
  | refine DL.dg_sub ?_ (tgs := L2.pg_sub DL.selfE DL.selfE DL.rSet_p)
  | fail)
local macro_rules | `(tactic| walk_at "D.gb") => `(tactic| first
  | ((with_reducible show DL.DJs _ _ _ _ _ _ _); first | with_reducible refine DL.djs_nil ?_ | refine DL.djs_cons ?_)
  | ((with_reducible show DL.FmtD _ _); first | ((with_reducible refine' DL.fmtS ?hz ?q); (case hz => walk_at "D.sz")) | ((with_reducible refine' DL.fmtI ?hz ?q); (case hz => first | with_reducible assumption | walk_at "D.lg")))
  | ((with_reducible show DL.DGb _ _ _ _ _ _ (DL.wipeD _ _) _ _); dsimp only [DL.wipeD, List.map, List.set])
  | ((with_reducible show DL.DGb _ _ _ _ (PySem.Expr.Name _ _) _ _ _ _); refine' DL.cb_name ?hc ?hB ?hi ?hl ?hv ?hs ?q; (case hc => with_reducible assumption); (case hB => with_reducible assumption); (case hi => walk_at "D.ix"); (case hl => walk_at "D.in"); (case hv => decide); (case hs => walk_at "D.ss"))
  | ((with_reducible show DL.DGb _ _ _ _ (PySem.Expr.Tuple _ _ _) _ _ _ _); refine' DL.dgb_tup ?hc ?h ?hl; (case hc => walk_at "D.calm"); (case hl => rfl))
  | ((with_reducible show DL.DGsb _ _ _ _ (_ :: _) _ _ _ _); refine DL.dgsb_cons ?_)
  | with_reducible refine DL.dgsb_nil ?_
  | with_reducible refine DL.dp_nil ?_
  | ((with_reducible show DL.DEb _ _ _ _ _ _ _); intro s0 H0 C0 cl0 fp0; have cb := DL.ctx_blk (by with_reducible assumption) (by with_reducible assumption) s0 H0 C0 cl0 fp0)
  | fail)
local macro_rules | `(tactic| walk_at "D.dec") => `(tactic| first | with_reducible assumption | with_reducible rfl | omega | (simp only [List.length_cons, List.length_nil, List.length_append, List.length_map] at *; first | assumption | omega) | fail)
local macro_rules | `(tactic| walk_at "D.br") => `(tactic| first
  | ((with_reducible refine' DL.brD ?h ?a); (case h => walk_at "D.dec"))
  | ((with_reducible refine' DL.brN ?h ?a); (case h => walk_at "D.dec"))
  | ((with_reducible refine' DL.brND ?h ?a); (case h => walk_at "D.dec"))
  | ((with_reducible refine' DL.brNN ?h ?a); (case h => walk_at "D.dec"))
  | ((with_reducible refine' DL.brTk ?h ?a); (case h => with_reducible assumption))
  | ((with_reducible refine' DL.brFk ?h ?a); (case h => with_reducible assumption))
  | fail)
local macro_rules | `(tactic| walk_at "D.o") => `(tactic| first
  | ((with_reducible show ∃ k, _ = _ ∧ _); with_reducible refine ⟨_, rfl, ?_⟩)
  | ((with_reducible show _ ∧ _); first | with_reducible refine DL.brT ?_ | with_reducible refine DL.brF ?_ | with_reducible refine DL.brNT ?_ | with_reducible refine DL.brNF ?_ | refine And.intro (by (first | with_reducible show List.length _ ≤ PySem.sizeLine | with_reducible show PySem.Str.length _ ≤ PySem.sizeLine); walk_at "D.sz") ?_ | refine And.intro (by with_reducible show DL.TyD _ _ _; first | exact DL.ty_str | exact DL.ty_lst | exact DL.ty_lsk | (apply DL.ty_cell; walk_at "D.lk")) ?_ | walk_at "D.br")
  | with_reducible refine DL.do_none ?_
  | with_reducible refine DL.do_some ?_
  | ((with_reducible show ∀ _, _ = none → _); intro _ _)
  | ((with_reducible show ∃ O2, DL.SubO O2 _ ∧ _); first | exact DL.sretI (by assumption) | (with_reducible apply DL.sretW; (· with_reducible assumption); (· walk_at "D.sub")) | fail)
  | fail)
local macro_rules | `(tactic| walk_at "D") => `(tactic| first
  | ((with_reducible show DL.DE _ _ _ _ _ _); walk_at "D.e")
  | ((with_reducible show DL.DA _ _ _ _ _ _); first | with_reducible refine DL.da_nil ?_ | refine DL.da_cons ?_)
  | ((with_reducible show DL.BinD _ _ _ _ _ _ _); walk_at "D.bin")
  | ((with_reducible show DL.CallD _ _ _ _ _ _); walk_at "D.cal")
  | ((with_reducible show DL.IxD _ _ _ _ _ _); walk_at "D.idx")
  | ((with_reducible show DL.DT _ _ _ _ _ _); walk_at "D.t")
  | ((with_reducible show DL.DW _ _ _ _ _ _); first | with_reducible refine DL.dw_and1 ?_ | with_reducible refine DL.dw_or1 ?_ | with_reducible refine DL.dw_and ?_ | with_reducible refine DL.dw_or ?_)
  | ((with_reducible show DL.DG _ _ _ _ _ _ _); walk_at "D.dg")
  | ((with_reducible show DL.DS _ _ _ _ _ _); walk_at "D.ds")
  | ((with_reducible show DL.DSs _ _ _ _ _ _); first | with_reducible refine DL.ds_cons ?_ | with_reducible refine DL.ds_nil ?_)
  | ((with_reducible show DL.DGs _ _ _ _ _ _ _); first | with_reducible refine DL.dgs_nil ?_ | refine DL.dgs_cons ?_)
  | walk_at "D.o"
  | walk_at "D.mv"
  | walk_at "D.gb"
  | walk_at "X.v"
  | fail)
local macro_rules | `(tactic| walk_at "D.mv") => `(tactic| first
  | ((with_reducible refine' DL.set_lstD ?h ?hj ?q); (case h => walk_at "D.lk"); (case hj => first | with_reducible assumption | rfl))
  | ((with_reducible refine' DL.me_append ?h1 ?h2 ?q); (case h1 => walk_at "D.lk"); (case h2 => walk_at "D.sz"))
  | ((with_reducible refine' DL.me_split ?hy ?hz ?q); (case hy => first | with_reducible assumption | rfl); (case hz => walk_at "D.sz"); intro _ _)
  | ((with_reducible refine' DL.me_partition ?hy ?hz ?q); (case hy => first | with_reducible assumption | rfl); (case hz => walk_at "D.sz"))
  | ((with_reducible refine' DL.me_extend ?h1 ?h2 ?h3 ?q); (case h1 => walk_at "D.lk"); (case h2 => walk_at "D.ow"); (case h3 => walk_at "D.sz"))
  | ((with_reducible refine' DL.me_reverse ?h1 ?q); (case h1 => walk_at "D.lk"))
  | ((with_reducible refine' DL.me_join ?hr ?hz ?q); (case hr => walk_at "D.rd"); (case hz => walk_at "D.szj"))
  | with_reducible refine DL.sl_tupD ?_
  | ((with_reducible refine' DL.sl_lstD ?hr ?q); (case hr => walk_at "D.rd"); intro _ _)
  | fail)
local macro_rules | `(tactic| walk_at "D.put") => `(tactic| repeat (first | with_reducible exact DL.Put.here | with_reducible exact DL.Put.new | ((with_reducible apply DL.Put.there); (· decide))))
local macro_rules | `(tactic| walk_at "X.r") => `(tactic| ((with_reducible show DL.DS _ _ (PySem.Stmt.Assign [PySem.Expr.Attribute _ _ _] _ _) _ _ _); refine' DL.ds_fld ?c ?n ?h; (case n => with_reducible assumption); (case c => with_reducible assumption)))
local macro_rules | `(tactic| walk_at "X.n") => `(tactic| ((with_reducible show DL.DE _ _ (PySem.Expr.Attribute _ _ _) _ _ _); refine' DL.de_fld ?c ?n ?h; (case n => with_reducible assumption); (case c => with_reducible assumption)))
local macro_rules | `(tactic| walk_at "X.v") => `(tactic| ((with_reducible refine' DL.fldW ?h1 ?h2 ?h3 ?q); (case h1 => walk_at "D.lk"); (case h2 => walk_at "D.put"); (case h3 => walk_at "D.ari")))
local macro_rules | `(tactic| walk_at "X.v") => `(tactic| ((with_reducible refine' DL.fldR ?h1 ?h2 ?q); (case h1 => walk_at "D.ins"); (case h2 => walk_at "D.fld")))
local macro_rules | `(tactic| walk_at "X.v") => `(tactic| ((with_reducible refine' DL.zipR ?h1 ?h2 ?q); (case h1 => walk_at "D.rd"); (case h2 => walk_at "D.rd")))
local macro_rules | `(tactic| walk_at "X.v") => `(tactic| ((with_reducible refine' DL.rng1R ?h1 ?h2 ?q); (case h1 => walk_at "D.ari"); (case h2 => walk_at "D.ari")))
local macro_rules | `(tactic| walk_at "X.v") => `(tactic| ((with_reducible refine' DL.rng2R ?h1 ?h2 ?h3 ?h4 ?q); (case h1 => walk_at "D.ari"); (case h2 => walk_at "D.ari"); (case h3 => walk_at "D.ari"); (case h4 => walk_at "D.ari")))
local macro_rules | `(tactic| walk_at "X.n") => `(tactic| ((with_reducible show DL.DE _ _ (PySem.Expr.Name _ _) _ _ _); first
  | (refine' DL.de_globS ?hm ?hg ?q; (case hm => with_reducible assumption); (case hg => walk_at "D.gl"))
  | (refine' DL.de_globI ?hm ?hg ?q; (case hm => with_reducible assumption); (case hg => walk_at "D.gl"))
  | (refine' DL.de_globR ?hm ?hg ?q; (case hm => with_reducible assumption); (case hg => walk_at "D.gl"))))
local macro_rules | `(tactic| walk_at "X.r") => `(tactic| ((with_reducible show DL.DS _ _ (PySem.Stmt.Raise _ _ _) _ _ _); refine' DL.c_raise ?T ?tk ?hc ?hg ?q; (case T => with_reducible assumption); (case tk => with_reducible assumption); (case hc => walk_at "D.calm"); (case hg => walk_at "D.gl")))
local macro_rules | `(tactic| walk_at "X.r") => `(tactic| ((with_reducible show DL.DS _ _ (PySem.Stmt.Assign [PySem.Expr.Tuple [PySem.Expr.Name _ _, PySem.Expr.Name _ _] _ _] (PySem.Expr.Tuple [_, _] _ _) _) _ _ _); refine' DL.c_par ?hc ?hsc ?hk ?hx ?hy ?hl ?hxy ?hst ?hf ?hcc ?hix ?hiy ?h; (case hc => with_reducible assumption); (case hsc => with_reducible assumption); (case hk => decide +kernel); (case hx => decide +kernel); (case hy => decide +kernel); (case hl => decide); (case hxy => decide); (case hst => rfl); (case hf => decide +kernel); (case hcc => decide +kernel); (case hix => walk_at "D.ix"); (case hiy => walk_at "D.ix")))
local macro_rules | `(tactic| walk_at "X.v") => `(tactic| ((with_reducible refine' DL.parR ?h1 ?h2 ?q); (case h1 => walk_at "D.ss"); (case h2 => walk_at "D.ss")))
local macro_rules | `(tactic| walk_at "X.n") => `(tactic| ((with_reducible show DL.DE _ _ (PySem.Expr.Attribute _ _ _) _ _ _); refine' DL.de_prop ?V ?c ?hr ?hk ?h; (case V => with_reducible assumption); (case c => with_reducible assumption); (case hr => with_reducible assumption); (case hk => decide)))
local macro_rules | `(tactic| walk_at "X.v") => `(tactic| ((with_reducible refine' DL.proR ?h1 ?q); (case h1 => walk_at "D.ins")))
local macro_rules | `(tactic| walk_at "G") => `(tactic| repeat' (walk_at "D"))
local macro_rules | `(tactic| walk_at "N") => `(tactic| repeat' ((fail_if_success with_reducible show DL.DS _ _ (PySem.Stmt.If _ _ _ _) _ _ _); walk_at "D"))

namespace K
open PySem L2 DL
def top (i : Nat) : Stmt := PySem.Challenge.pw_bothcome_k71_texts_are_read.main.body.getD i (.Pass ⟨0, 0, 0, 0⟩)
def clsIt : Stmt → Nat → Stmt
  | .ClassDef (body := b) .., j => b.getD j (.Pass ⟨0, 0, 0, 0⟩)
  | _, _ => .Pass ⟨0, 0, 0, 0⟩

def spTake : SpD := fun ds O Q _ => ∃ (a : Addr) (w m : Int), ds = [.ptr a, .int m] ∧ O a = some (.lst [.int w]) ∧ 0 < m ∧ m < 2 ^ 200 ∧ Q (.int (w % m)) (updO O a (.lst [.int (w / m)]))
abbrev s_law_take : Stmt := top 20
theorem sc_law_take : FnScope ["digits", "many", "found"] ["digits", "many"] (defScope s_law_take) := ⟨rfl, rfl, rfl, by decide +kernel, rfl, by decide +kernel, by decide +kernel⟩
theorem st_law_take : ScopeOk ["digits", "many", "found"] ["int"] (defScope s_law_take) := ⟨by decide +kernel, by decide +kernel⟩
theorem ok_law_take {M : Dis} {P : Program} {w : World} {K : PySem.W.Frag} {mg : Str → Option Value} {base : Heap} {f : Addr} {fd : FuncData} (F : Fun K "_law_take" "_law_take" s_law_take f fd) (bi : Bi mg)  :
    FnOk P w K mg base (M.cx P w) 1 f fd ["digits", "many"] (lift K spTake) := by
  refine fn_okC (k := 0) F sc_law_take st_law_take (fun ds O Q E h => by obtain ⟨a, wv, m, rfl, _⟩ := h; rfl) fun X B W eP ew eK em eb c hsc hst hfr hpo hpa hr tk ds O Q h => ?_
  subst eP ew eK em eb
  obtain ⟨a, wv, m, rfl, hO, hm, hm2, hq⟩ := h
  refine ds_cons (δ := [some _, some _, none]) ?_
  walk_at "G"

/-! ### is_integer, is_pair -/
inductive IntT (K : PySem.W.Frag) (O : OH) (x : D) : Bool → Prop
  | mk {t : Value} {b1 b2 : Bool} (h : TyDX K O x t) (h1 : PySem.W.kitOne K t (.type "int") = some b1) (h2 : PySem.W.kitOne K t (.type "bool") = some b2) : IntT K O x (b1 && !b2)
theorem IntT.int {K : PySem.W.Frag} {O : OH} {i : Int} : IntT K O (.int i) true := .mk (b1 := true) (b2 := false) .int (kit_ty (by decide +kernel)) (kit_ty (by decide +kernel))
def spIsInt (K : PySem.W.Frag) : SpD := fun ds O Q _ => ∃ (x : D) (b : Bool), ds = [x] ∧ IntT K O x b ∧ Q (.bl b) O
abbrev sis_integer : Stmt := top 6
theorem scis_integer : FnScope ["value"] ["value"] (defScope sis_integer) := ⟨rfl, rfl, rfl, by decide +kernel, rfl, by decide +kernel, by decide +kernel⟩
theorem stis_integer : ScopeOk ["value"] ["isinstance", "int", "bool"] (defScope sis_integer) := ⟨by decide +kernel, by decide +kernel⟩
theorem okis_integer {M : Dis} {P : Program} {w : World} {K : PySem.W.Frag} {mg : Str → Option Value} {base : Heap} {f : Addr} {fd : FuncData} (F : Fun K "is_integer" "is_integer" sis_integer f fd) (bi : Bi mg)  :
    FnOk P w K mg base (M.cx P w) 1 f fd ["value"] (lift K (spIsInt K)) := by
  refine fn_okC (k := 0) F scis_integer stis_integer (fun ds O Q E h => by obtain ⟨x, b, rfl, _⟩ := h; rfl) fun X B W eP ew eK em eb c hsc hst hfr hpo hpa hr tk ds O Q h => ?_
  subst eP ew eK em eb
  obtain ⟨x, b, rfl, ⟨ht, h1, h2⟩, hq⟩ := h
  refine ds_cons (δ := [some _]) ?_
  rename_i b1 b2
  cases b1 <;> cases b2 <;> walk_at "G"
inductive PairT (K : PySem.W.Frag) (O : OH) : D → Bool → Prop
  | no {x : D} {t : Value} (h : TyDX K O x t) (h1 : PySem.W.kitOne K t (.type "tuple") = some false) : PairT K O x false
  | len {ds : List D} (h : ds.length ≠ 2) : PairT K O (.tup ds) false
  | two {x y : D} {a b : Bool} (h1 : IntT K O x a) (h2 : IntT K O y b) : PairT K O (.tup [x, y]) (a && b)
theorem PairT.pair {K : PySem.W.Frag} {O : OH} {i j : Int} : PairT K O (.tup [.int i, .int j]) true := .two .int .int
def spIsPair (K : PySem.W.Frag) : SpD := fun ds O Q _ => ∃ (x : D) (b : Bool), ds = [x] ∧ PairT K O x b ∧ Q (.bl b) O
theorem spIsInt.mk {K : PySem.W.Frag} {x : D} {b : Bool} {O : OH} {Q : D → OH → Prop} {E : Addr → OH → Prop} (h : IntT K O x b) (q : Q (.bl b) O) : spIsInt K [x] O Q E := ⟨x, b, rfl, h, q⟩
local macro_rules | `(tactic| walk_at "X.v") => `(tactic| ((with_reducible refine' spIsInt.mk ?h ?q); (case h => first | with_reducible assumption | exact IntT.int)))
abbrev sis_pair : Stmt := top 7
theorem scis_pair : FnScope ["value"] ["value"] (defScope sis_pair) := ⟨rfl, rfl, rfl, by decide +kernel, rfl, by decide +kernel, by decide +kernel⟩
theorem stis_pair : ScopeOk ["value"] ["isinstance", "tuple", "len", "is_integer"] (defScope sis_pair) := ⟨by decide +kernel, by decide +kernel⟩
theorem okis_pair {M : Dis} {P : Program} {w : World} {K : PySem.W.Frag} {mg : Str → Option Value} {base : Heap} {f : Addr} {fd : FuncData} (F : Fun K "is_pair" "is_pair" sis_pair f fd) (bi : Bi mg) (Fi : FnD M P w K mg base "is_integer" 1 (spIsInt K)) :
    FnOk P w K mg base (M.cx P w) 2 f fd ["value"] (lift K (spIsPair K)) := by
  refine fn_okC (k := 1) F scis_pair stis_pair (fun ds O Q E h => by obtain ⟨x, b, rfl, _⟩ := h; rfl) fun X B W eP ew eK em eb c hsc hst hfr hpo hpa hr tk ds O Q h => ?_
  subst eP ew eK em eb
  obtain ⟨x, b, rfl, hp, hq⟩ := h
  refine ds_cons (δ := [some _]) ?_
  cases hp with
  | no ht h1 => walk_at "G"
  | len hl =>
    walk_at "G"
  | two h1 h2 =>
    rename_i a b
    cases a <;> cases b <;> walk_at "G"
theorem spIsPair.mk {K : PySem.W.Frag} {x : D} {b : Bool} {O : OH} {Q : D → OH → Prop} {E : Addr → OH → Prop} (h : PairT K O x b) (q : Q (.bl b) O) : spIsPair K [x] O Q E := ⟨x, b, rfl, h, q⟩
local macro_rules | `(tactic| walk_at "X.v") => `(tactic| ((with_reducible refine' spIsPair.mk ?h ?q); (case h => first | with_reducible assumption | exact PairT.pair)))
/-! ### trees -/
abbrev prs (ps : List (Int × Int)) : List D := ps.map dPair
/-- the heights of the nodes -/
def hgts : List Int → List (Int × Int) → List Int
  | hs, [] => hs
  | hs, (p, l) :: r => hgts (hs ++ [hs.getD p.toNat 0 + l]) r
def iL (l : List Int) : List D := l.map D.int
def parsL (ps : List (Int × Int)) : List Int := 0 :: ps.map (·.1)
def lensL (ps : List (Int × Int)) : List Int := 1 :: ps.map (·.2)
def hgtsL (ps : List (Int × Int)) : List Int := hgts [0] ps
abbrev treeF (ps : List (Int × Int)) : List (Str × D) := [("parents", .lst (iL (parsL ps))), ("lengths", .lst (iL (lensL ps))), ("heights", .lst (iL (hgtsL ps)))]
/-- rows that make a tree -/
def TreeOk (ps : List (Int × Int)) : Prop := ∀ (i : Nat) (p : Int × Int), ps[i]? = some p → 0 ≤ p.1 ∧ p.1 ≤ i ∧ 1 ≤ p.2
theorem iL_len {l : List Int} : (iL l).length = l.length := List.length_map _
theorem iL_app {l m : List Int} : iL (l ++ m) = iL l ++ iL m := List.map_append
theorem iL_snoc {l : List Int} {p : Int} : iL (l ++ [p]) = iL l ++ [.int p] := List.map_append
theorem parsL_len {ps : List (Int × Int)} : (parsL ps).length = ps.length + 1 := by simp [parsL]
theorem lensL_len {ps : List (Int × Int)} : (lensL ps).length = ps.length + 1 := by simp [lensL]
theorem hgts_len : ∀ {ps : List (Int × Int)} {hs : List Int}, (hgts hs ps).length = hs.length + ps.length
  | [], _ => rfl
  | (p, l) :: r, hs => by unfold hgts; rw [hgts_len, List.length_append, List.length_cons]; simp; omega
theorem hgtsL_len {ps : List (Int × Int)} : (hgtsL ps).length = ps.length + 1 := by unfold hgtsL; rw [hgts_len]; simp; omega
theorem hgts_snoc : ∀ {ps : List (Int × Int)} {hs : List Int} {p l : Int}, hgts hs (ps ++ [(p, l)]) = hgts hs ps ++ [(hgts hs ps).getD p.toNat 0 + l]
  | [], _, _, _ => rfl
  | (a, b) :: r, hs, p, l => by
    show hgts _ (r ++ [(p, l)]) = hgts _ r ++ _
    exact hgts_snoc
theorem hgtsL_snoc {ps : List (Int × Int)} {p l : Int} : hgtsL (ps ++ [(p, l)]) = hgtsL ps ++ [(hgtsL ps).getD p.toNat 0 + l] := hgts_snoc
theorem parsL_snoc {ps : List (Int × Int)} {p l : Int} : parsL (ps ++ [(p, l)]) = parsL ps ++ [p] := by simp [parsL]
theorem lensL_snoc {ps : List (Int × Int)} {p l : Int} : lensL (ps ++ [(p, l)]) = lensL ps ++ [l] := by simp [lensL]
theorem take_snoc {α : Type} {l : List α} {i : Nat} {x : α} (h : l[i]? = some x) : l.take (i + 1) = l.take i ++ [x] := by
  obtain ⟨hl, e⟩ := List.getElem?_eq_some_iff.mp h
  rw [List.take_succ_eq_append_getElem hl, e]
theorem prs_at {ps : List (Int × Int)} {i : Nat} {d : D} (h : (prs ps)[i]? = some d) : ∃ p l, ps[i]? = some (p, l) ∧ d = .tup [.int p, .int l] := by
  unfold prs at h
  rw [List.getElem?_map] at h
  cases e : ps[i]? with
  | none => rw [e] at h; cases h
  | some q => rw [e] at h; cases h; exact ⟨q.1, q.2, rfl, rfl⟩
theorem prs_len {ps : List (Int × Int)} : (prs ps).length = ps.length := List.length_map _
theorem iL_at {l : List Int} {i : Int} (h0 : 0 ≤ i) (h1 : i < l.length) : atI (iL l) i = some (.int (l.getD i.toNat 0)) := by
  unfold L2.atI L2.ixN
  rw [iL_len]
  rw [if_pos h0, if_pos h1]
  unfold iL
  have hl : i.toNat < l.length := by omega
  rw [show ((some i.toNat : Option Nat).bind fun j => (List.map D.int l)[j]?) = (List.map D.int l)[i.toNat]? from rfl, List.getElem?_map, List.getElem?_eq_getElem hl, List.getD_eq_getElem?_getD, List.getElem?_eq_getElem hl]
  rfl
structure TreeC (K : PySem.W.Frag) (CT : Addr) : Prop where
  ic : InsC K CT
  nP : NoAttr K CT "parents"
  nL : NoAttr K CT "lengths"
  nH : NoAttr K CT "heights"
theorem rdl_ty {K : PySem.W.Frag} {O : OH} {r : D} {ds : List D} (h : RdL O r ds) : TyDX K O r (.type "list") := by
  cases h with
  | lst => exact .lst
  | lsk => exact .lsk
  | cell h => exact .cell h
theorem rdl_sub {O O' : OH} {r : D} {ds : List D} {x C : Addr} {fs : List (Str × D)} (h : RdL O r ds) (hx : O x = some (.ins C fs)) (s : SubO (delO O x) O') : RdL O' r ds := by
  cases h with
  | lst => exact .lst
  | lsk => exact .lsk
  | @cell l _ h =>
    refine .cell (s l _ ?_)
    unfold delO
    rw [if_neg fun e => by rw [e, hx] at h; cases h]
    exact h
theorem delO_at {O : OH} {a b : Addr} {c : Cell} (h : b ≠ a) (k : O b = some c) : delO O a b = some c := by unfold delO; rw [if_neg h]; exact k
theorem tree_frz {O O' : OH} {x a1 a2 a3 CT : Addr} {l1 l2 l3 : List D} (hX : O' x = some (.ins CT [("parents", .ptr a1), ("lengths", .ptr a2), ("heights", .ptr a3)])) (h1 : O' a1 = some (.lst l1)) (h2 : O' a2 = some (.lst l2)) (h3 : O' a3 = some (.lst l3))
    (e12 : a1 ≠ a2) (e13 : a1 ≠ a3) (e23 : a2 ≠ a3) (x1 : a1 ≠ x) (x2 : a2 ≠ x) (x3 : a3 ≠ x) (n : O x = none) (n1 : O a1 = none) (n2 : O a2 = none) (n3 : O a3 = none) (hs : SubO O O') :
    FzR (.ptr x) O' (.obj CT [("parents", .lst l1), ("lengths", .lst l2), ("heights", .lst l3)]) O := by
  refine (frz_in hX h1 (.put (.keep (.keep .nil)))).trans ((frz_in updO_same (updO_get x2 (delO_at (Ne.symm e12) h2)) (.keep (.put (.keep .nil)))).trans ((frz_in updO_same (updO_get x3 (delO_at (Ne.symm e23) (updO_get x3 (delO_at (Ne.symm e13) h3)))) (.keep (.keep (.put .nil)))).trans ((frz_ins updO_same).trans (FzR.weak fun c d hc => ?_))))
  have q : c ≠ x := fun e => by rw [e, n] at hc; cases hc
  have q1 : c ≠ a1 := fun e => by rw [e, n1] at hc; cases hc
  have q2 : c ≠ a2 := fun e => by rw [e, n2] at hc; cases hc
  have q3 : c ≠ a3 := fun e => by rw [e, n3] at hc; cases hc
  exact delO_at q (updO_get q (delO_at q3 (updO_get q (delO_at q2 (updO_get q (delO_at q1 (hs c d hc)))))))
def spTreeInit (CT : Addr) : SpD := fun ds O Q _ => ∃ (x : Addr) (r : D) (ps : List (Int × Int)), ds = [.ptr x, r] ∧ O x = some (.ins CT []) ∧ RdL O r (prs ps) ∧ TreeOk ps ∧ ps.length < 1000000 ∧
  ∀ O', FzR (.ptr x) O' (.obj CT (treeF ps)) (delO O x) → Q .non O'
abbrev sTree_init : Stmt := clsIt (top 8) 0
theorem scTree_init : FnScope ["self", "roads", "road", "parent", "length"] ["self", "roads"] (defScope sTree_init) := ⟨rfl, rfl, rfl, by decide +kernel, rfl, by decide +kernel, by decide +kernel⟩
theorem stTree_init : ScopeOk ["self", "roads", "road", "parent", "length"] ["isinstance", "list", "InvalidTree", "is_pair", "len"] (defScope sTree_init) := ⟨by decide +kernel, by decide +kernel⟩
theorem okTree_init {M : Dis} {P : Program} {w : World} {K : PySem.W.Frag} {mg : Str → Option Value} {base : Heap} {f : Addr} {fd : FuncData} (F : Fun K "__init__" "Tree.__init__" sTree_init f fd) (bi : Bi mg) {CT : Addr} (T : TreeC K CT) (Fp : FnD M P w K mg base "is_pair" 2 (spIsPair K)) :
    FnOk P w K mg base (M.cx P w) 3 f fd ["self", "roads"] (lift K (spTreeInit CT)) := by
  refine fn_okC (k := 2) F scTree_init stTree_init (fun ds O Q E h => by obtain ⟨x, r, ps, rfl, _⟩ := h; rfl) fun X B W eP ew eK em eb c hsc hst hfr hpo hpa hr tk ds O Q h => ?_
  subst eP ew eK em eb
  obtain ⟨x, r, ps, rfl, hx, hr0, hok, hz, hq⟩ := h
  refine ds_cons (δ := [some _, some _, none, none, none]) ?_
  have tyl := rdl_ty (K := X.K) hr0
  have tcl := T.ic.cl; have tP := T.nP; have tL := T.nL; have tH := T.nH
  walk_at "G"
  rename_i a1 n1 a2 n2 a3 n3
  have n2' := free_of (free_of n2)
  have n3' := free_of (free_of (free_of (free_of n3)))
  have e12 : a1 ≠ a2 := fun e => by subst e; rw [updO_ne (fun z => by subst z; rw [hx] at n1; cases n1), updO_same] at n2; cases n2
  have x1 : a1 ≠ x := fun e => by subst e; rw [hx] at n1; cases n1
  have x2 : a2 ≠ x := fun e => by subst e; rw [hx] at n2'; cases n2'
  have x3 : a3 ≠ x := fun e => by subst e; rw [hx] at n3'; cases n3'
  have e13 : a1 ≠ a3 := fun e => by subst e; rw [updO_ne x1, updO_ne e12, updO_ne x1, updO_same] at n3; cases n3
  have e23 : a2 ≠ a3 := fun e => by subst e; rw [updO_ne x2, updO_same] at n3; cases n3
  refine ds_for hpo c.calm (di_list ?_)
  walk_at "G"
  refine ⟨prs ps, ?_, fun i δ' O' => ∃ e1 e2 e3, δ' = [some (D.ptr x), some r, e1, e2, e3] ∧ O' x = some (.ins CT [("parents", .ptr a1), ("lengths", .ptr a2), ("heights", .ptr a3)]) ∧
    O' a1 = some (.lst (iL (parsL (ps.take i)))) ∧ O' a2 = some (.lst (iL (lensL (ps.take i)))) ∧ O' a3 = some (.lst (iL (hgtsL (ps.take i)))) ∧ SubO (delO O x) O', ⟨none, none, none, rfl, ?_, ?_, ?_, ?_, ?_⟩, ?_, ?_, ?_⟩
  · exact rdl_sub hr0 hx (by walk_at "D.sub")
  · walk_at "D.lk"
  · show _ = some (Cell.lst [D.int 0])
    walk_at "D.lk"
  · show _ = some (Cell.lst [D.int 1])
    walk_at "D.lk"
  · show _ = some (Cell.lst [D.int 0])
    walk_at "D.lk"
  · walk_at "D.sub"
  · rintro i δ' O' ⟨e1, e2, e3, _, _, _, _, _, hs⟩
    exact rdl_sub hr0 hx hs
  · rintro i y δ' O' hi ⟨e1, e2, e3, rfl, hX, h1, h2, h3, hs⟩
    obtain ⟨p, l, hpl, rfl⟩ := prs_at hi
    obtain ⟨p0, p1, l1⟩ := hok i _ hpl
    simp only at p0 p1 l1
    have il : i < ps.length := (List.getElem?_eq_some_iff.mp hpl).1
    have tl : (ps.take i).length = i := by rw [List.length_take]; omega
    have k1 : (iL (parsL (ps.take i))).length = i + 1 := by rw [iL_len, parsL_len, tl]
    have k2 : (iL (lensL (ps.take i))).length = i + 1 := by rw [iL_len, lensL_len, tl]
    have k3 : (iL (hgtsL (ps.take i))).length = i + 1 := by rw [iL_len, hgtsL_len, tl]
    have z1 : (iL (parsL (ps.take i))).length < PySem.sizeLine := by rw [k1, PySem.sizeLine_eq]; omega
    have z2 : (iL (lensL (ps.take i))).length < PySem.sizeLine := by rw [k2, PySem.sizeLine_eq]; omega
    have z3 : (iL (hgtsL (ps.take i))).length < PySem.sizeLine := by rw [k3, PySem.sizeLine_eq]; omega
    have hat : atI (iL (hgtsL (ps.take i))) p = some (.int ((hgtsL (ps.take i)).getD p.toNat 0)) := iL_at p0 (by rw [hgtsL_len, tl]; omega)
    walk_at "G"
    refine ⟨_, _, _, rfl, by walk_at "D.lk", ?_, ?_, ?_, ?_⟩
    · rw [take_snoc hpl, parsL_snoc, iL_snoc]; walk_at "D.lk"
    · rw [take_snoc hpl, lensL_snoc, iL_snoc]; walk_at "D.lk"
    · rw [take_snoc hpl, hgtsL_snoc, iL_snoc]; walk_at "D.lk"
    · walk_at "D.sub"
  · rintro δ' O' ⟨e1, e2, e3, rfl, hX, h1, h2, h3, hs⟩
    rw [prs_len, List.take_length] at h1 h2 h3
    walk_at "G"
    exact ⟨O', SubO.refl, hq O' (tree_frz hX h1 h2 h3 e12 e13 e23 x1 x2 x3 delO_self (delO_none n1) (delO_none n2') (delO_none n3') hs)⟩

/-! ### Tree.roads -/
def spRoads (CT : Addr) : SpD := fun ds O Q _ => ∃ (ps : List (Int × Int)), ds = [.obj CT (treeF ps)] ∧ ps.length < 1000000 ∧ ∀ l, O l = none → Q (.ptr l) (updO O l (.lst (prs ps)))
theorem zip_pars {ps : List (Int × Int)} : zipD ((iL (parsL ps)).drop 1) ((iL (lensL ps)).drop 1) = prs ps := by
  show zipD ((ps.map (·.1)).map D.int) ((ps.map (·.2)).map D.int) = prs ps
  unfold zipD prs
  induction ps with
  | nil => rfl
  | cons p r ih => simp only [List.map_cons, List.zip_cons_cons]; rw [ih]; rfl
abbrev sTree_roads : Stmt := clsIt (top 8) 1
theorem scTree_roads : FnScope ["self"] ["self"] (defScope sTree_roads) := ⟨rfl, rfl, rfl, by decide +kernel, rfl, by decide +kernel, by decide +kernel⟩
theorem stTree_roads : ScopeOk ["self"] ["list", "zip"] (defScope sTree_roads) := ⟨by decide +kernel, by decide +kernel⟩
theorem okTree_roads {M : Dis} {P : Program} {w : World} {K : PySem.W.Frag} {mg : Str → Option Value} {base : Heap} {f : Addr} {fd : FuncData} (F : Fun K "roads" "Tree.roads" sTree_roads f fd) (bi : Bi mg) {CT : Addr} (T : TreeC K CT) :
    FnOk P w K mg base (M.cx P w) 1 f fd ["self"] (lift K (spRoads CT)) := by
  refine fn_okC (k := 0) F scTree_roads stTree_roads (fun ds O Q E h => by obtain ⟨ps, rfl, _⟩ := h; rfl) fun X B W eP ew eK em eb c hsc hst hfr hpo hpa hr tk ds O Q h => ?_
  subst eP ew eK em eb
  obtain ⟨ps, rfl, hz, hq⟩ := h
  refine ds_cons (δ := [some _]) ?_
  have tcl := T.ic.cl; have tP := T.nP; have tL := T.nL; have tH := T.nH
  walk_at "G"
  rename_i p1 n1 p2 n2 l n
  rw [cut1, cut1, zip_pars]
  exact ⟨updO O l (.lst (prs ps)), (subO_new (free_of n2) (subO_new n1 SubO.refl)).upd, hq l (free_of (free_of n))⟩
/-! ### texts -/
open TL in
def digC (c : Nat) : Bool := 48 ≤ c && c ≤ 57
/-- a word that is an integer -/
def isNum (w : Str) : Bool := !(w == "") && decide (w.length ≤ 30) && (TL.tl w).all digC && !(decide ((TL.tl w).head? = some 48) && decide (1 < w.length))
def readI (w : Str) : Option Int := if isNum w then some ((NumText.digitsVal (TL.tl w) : Nat) : Int) else none
def spReadInt (CE : Addr) : SpD := fun ds O Q E => ∃ w : Str, ds = [.str w] ∧ w.length ≤ 1000000 ∧ (∀ n, readI w = some n → Q (.int n) O) ∧ (readI w = none → E CE O)
theorem readI_no {w : Str} (h : isNum w = false) : readI w = none := by unfold readI; rw [h]; rfl
theorem signs_get {w : Str} {i : Nat} {y : D} (h : (signs w)[i]? = some y) : ∃ c, (TL.tl w)[i]? = some c ∧ y = .str ⟨#[c]⟩ := by
  unfold signs at h
  rw [List.getElem?_map] at h
  cases e : w.cps.toList[i]? with
  | none => rw [e] at h; cases h
  | some c => rw [e] at h; cases h; exact ⟨c, rfl, rfl⟩
theorem signs_len {w : Str} : (signs w).length = w.length := by simp [signs, Str.length]
theorem digits_mem {c : Nat} : c ∈ ((("0123456789" : Str)).cps.toList) ↔ digC c = true := by
  have e : (("0123456789" : Str)).cps.toList = [48, 49, 50, 51, 52, 53, 54, 55, 56, 57] := by decide +kernel
  rw [e]
  simp only [List.mem_cons, List.not_mem_nil, or_false, digC, Bool.and_eq_true, decide_eq_true_eq]
  omega
theorem isNum_bad {w : Str} {i c : Nat} (h : (TL.tl w)[i]? = some c) (hc : digC c = false) : isNum w = false := by
  have : (TL.tl w).all digC = false := by
    rw [List.all_eq_false]
    exact ⟨c, List.mem_of_getElem? h, by rw [hc]; decide⟩
  unfold isNum
  rw [this]
  simp
abbrev sread_integer : Stmt := top 14
theorem scread_integer : FnScope ["word", "sign"] ["word"] (defScope sread_integer) := ⟨rfl, rfl, rfl, by decide +kernel, rfl, by decide +kernel, by decide +kernel⟩
theorem stread_integer : ScopeOk ["word", "sign"] ["len", "MOST_DIGITS", "InvalidText", "DIGITS", "int"] (defScope sread_integer) := ⟨by decide +kernel, by decide +kernel⟩
theorem okread_integer {M : Dis} {P : Program} {w : World} {K : PySem.W.Frag} {mg : Str → Option Value} {base : Heap} {f : Addr} {fd : FuncData} (F : Fun K "read_integer" "read_integer" sread_integer f fd) (bi : Bi mg) {CE : Addr} (TE : ErrC K mg "InvalidText" CE) (hD : ∃ t, mg "DIGITS" = some (.str "0123456789" t)) (hM : ∃ t, mg "MOST_DIGITS" = some (.int 30 t)) :
    FnOk P w K mg base (M.cx P w) 1 f fd ["word"] (lift K (spReadInt CE)) := by
  refine fn_okC (k := 0) F scread_integer stread_integer (fun ds O Q E h => by obtain ⟨w, rfl, _⟩ := h; rfl) fun X B W eP ew eK em eb c hsc hst hfr hpo hpa hr tk ds O Q h => ?_
  subst eP ew eK em eb
  obtain ⟨w, rfl, hz, hq, hE⟩ := h
  obtain ⟨tD, hD⟩ := hD
  obtain ⟨tM, hM⟩ := hM
  refine ds_cons (δ := [some _, none]) ?_
  have hE2 := fun h => hE (readI_no h)
  walk_at "G"
  refine brS (fun h1 => ?_) (fun h1 => ?_)
  · have hw : W CE O := hE2 (by unfold isNum; rw [h1]; rfl)
    walk_at "G"
  walk_at "G"
  refine brS (fun h2 => ?_) (fun h2 => ?_)
  · have hw : W CE O := hE2 (by unfold isNum; rw [decide_eq_false (show ¬ w.length ≤ 30 by omega)]; simp)
    walk_at "G"
  walk_at "G"
  refine ds_for hpo c.calm (di_str ?_)
  walk_at "G"
  refine ⟨fun i δ' O' => ∃ e1, δ' = [some (D.str w), e1] ∧ O' = O ∧ ∀ (j : Nat) c, j < i → (TL.tl w)[j]? = some c → digC c = true, ⟨none, rfl, rfl, fun j c hj => absurd hj (Nat.not_lt_zero _)⟩, fun _ _ _ _ => True.intro, ?_, ?_⟩
  · rintro i y δ' O' hi ⟨e1, rfl, rfl, hd⟩
    obtain ⟨cc, hcc, rfl⟩ := signs_get hi
    walk_at "G"
    refine brNS (fun h3 => ?_) (fun h3 => ?_)
    · have hw : W CE _ := hE2 (isNum_bad hcc (by cases hh : digC cc with | false => rfl | true => exact absurd (digits_mem.mpr hh) h3))
      walk_at "G"
    walk_at "G"
    refine ⟨rfl, fun j c hj hc => ?_⟩
    rcases Nat.lt_succ_iff_lt_or_eq.mp hj with hj | rfl
    · exact hd j c hj hc
    · rw [hcc] at hc; cases hc; exact digits_mem.mp h3
  · rintro δ' O' ⟨e1, rfl, rfl, hd⟩
    obtain ⟨c0, hc0⟩ : ∃ c0, (TL.tl w)[0]? = some c0 := by
      cases hl : TL.tl w with
      | nil => exact absurd (TL.ext_tl (y := "") hl) h1
      | cons c0 r => exact ⟨c0, rfl⟩
    have hlen := TL.len_tl w
    have hall : (TL.tl w).all digC = true := List.all_eq_true.mpr fun c hm => by
      obtain ⟨j, hj⟩ := List.mem_iff_getElem?.mp hm
      exact hd j c (by rw [signs_len, hlen]; exact (List.getElem?_eq_some_iff.mp hj).1) hj
    have hhead : (TL.tl w).head? = some c0 := by rw [List.head?_eq_getElem?]; exact hc0
    have hix : atI w.cps.toList 0 = some c0 := by
      unfold L2.atI L2.ixN
      have : (0 : Int) < (w.cps.toList.length : Nat) := by
        have := (List.getElem?_eq_some_iff.mp hc0).1
        show (0 : Int) < ((TL.tl w).length : Nat)
        omega
      rw [if_pos (Int.le_refl 0), if_pos this]
      exact hc0
    walk_at "G"
    refine ix_strD (by walk_at "D.sz") hix ?_
    walk_at "G"
    have hne : TL.tl w ≠ [] := fun e => by rw [e] at hc0; cases hc0
    have hrd : isNum w = true → Q (.int ((NumText.digitsVal (TL.tl w) : Nat) : Int)) _ := fun hn => hq _ (by unfold readI; rw [hn]; rfl)
    have hit : PySem.intText? w = some ((NumText.digitsVal (TL.tl w) : Nat) : Int) := intText_digits (fun c hm => by
      have := List.all_eq_true.mp hall c hm
      simpa [digC] using this) hne (by omega)
    have hw0 : (w == "") = false := by simpa using h1
    refine brS (fun h4 => ?_) (fun h4 => ?_)
    · walk_at "G"
      have e0 : c0 = 48 := by have := congrArg (fun x : Str => x.cps.toList) h4; rw [show (("0" : Str)).cps.toList = [48] from by decide +kernel] at this; simpa using this
      subst e0
      refine brS (fun h5 => ?_) (fun h5 => ?_)
      · have hw : W CE _ := hE2 (by unfold isNum; rw [hhead, decide_eq_true (show 1 < w.length by omega)]; simp)
        walk_at "G"
      · have hn : isNum w = true := by unfold isNum; rw [hw0, hall, decide_eq_false (show ¬ 1 < w.length by omega), decide_eq_true (show w.length ≤ 30 by omega)]; simp
        have hQ := hrd hn
        walk_at "G"
        refine ca_intS hit (by omega) ?_
        walk_at "G"
    · have hn : isNum w = true := by
        unfold isNum
        rw [hw0, hall, hhead, decide_eq_false (show ¬ (some c0 = some 48) from fun e => h4 (by cases e; rfl)), decide_eq_true (show w.length ≤ 30 by omega)]; simp
      have hQ := hrd hn
      walk_at "G"
      refine ca_intS hit (by omega) ?_
      walk_at "G"
/-! ### read_pairs -/
/-- one word: two integers and the mark between them -/
def readW (m w : Str) : Option (Int × Int) :=
  if (Txt.partition w m).2.1 = "" then none else match readI (Txt.partition w m).1, readI (Txt.partition w m).2.2 with | some a, some b => some (a, b) | _, _ => none
theorem sum_mem : ∀ {l : List Nat} {n : Nat}, n ∈ l → n ≤ l.sum
  | a :: l, n, h => by
    rw [List.sum_cons]
    rcases List.mem_cons.mp h with e | h
    · omega
    · have := sum_mem h; omega
theorem split_word {x w : Str} (h : w ∈ Txt.split x " ") : w.length ≤ x.length := by
  have h1 := PyProof.Rows.split_weight x " " (by decide)
  have h2 := sum_mem (List.mem_map.mpr ⟨w, h, rfl⟩ : w.length ∈ (Txt.split x " ").map (·.length))
  have h3 : 1 ≤ (Txt.split x " ").length := List.length_pos_of_mem h
  omega
def readWs (m : Str) : List Str → Option (List (Int × Int))
  | [] => some []
  | w :: r => match readW m w, readWs m r with | some p, some ps => some (p :: ps) | _, _ => none
def readP (m x : Str) : Option (List (Int × Int)) := if x = "-" then some [] else readWs m (Txt.split x " ")
theorem readW_pos {m w : Str} {a b : Int} (h1 : (Txt.partition w m).2.1 ≠ "") (h2 : readI (Txt.partition w m).1 = some a) (h3 : readI (Txt.partition w m).2.2 = some b) : readW m w = some (a, b) := by
  unfold readW; rw [if_neg h1, h2, h3]
theorem readW_f {m w : Str} (h1 : (Txt.partition w m).2.1 = "") : readW m w = none := by unfold readW; rw [if_pos h1]
theorem readW_l {m w : Str} (h1 : readI (Txt.partition w m).1 = none) : readW m w = none := by unfold readW; split <;> (try rw [h1]); rfl
theorem readW_r {m w : Str} (h1 : readI (Txt.partition w m).2.2 = none) : readW m w = none := by
  unfold readW; split
  · rfl
  · rw [h1]; cases readI (Txt.partition w m).1 <;> rfl
theorem readWs_bad {m : Str} : ∀ {ws : List Str} {w : Str}, w ∈ ws → readW m w = none → readWs m ws = none
  | [], _, h, _ => by cases h
  | v :: r, w, h, hw => by
    unfold readWs
    rcases List.mem_cons.mp h with e | h
    · subst e; rw [hw]
    · rw [readWs_bad h hw]; cases readW m v <;> rfl
theorem readWs_snoc {m : Str} {w : Str} {p : Int × Int} (hw : readW m w = some p) : ∀ {ws : List Str} {ps : List (Int × Int)}, readWs m ws = some ps → readWs m (ws ++ [w]) = some (ps ++ [p])
  | [], ps, h => by cases h; show readWs m [w] = _; unfold readWs; rw [hw]; rfl
  | v :: r, ps, h => by
    rw [List.cons_append]
    unfold readWs at h ⊢
    cases hv : readW m v with
    | none => rw [hv] at h; cases h
    | some q =>
      cases hr : readWs m r with
      | none => rw [hv, hr] at h; cases h
      | some qs => rw [hv, hr] at h; cases h; rw [readWs_snoc hw hr]; rfl
theorem prs_snoc {ps : List (Int × Int)} {a b : Int} : prs (ps ++ [(a, b)]) = prs ps ++ [.tup [.int a, .int b]] := List.map_append
theorem readWs_len {m : Str} : ∀ {ws : List Str} {ps : List (Int × Int)}, readWs m ws = some ps → ps.length = ws.length
  | [], ps, h => by cases h; rfl
  | v :: r, ps, h => by
    unfold readWs at h
    cases hv : readW m v with
    | none => rw [hv] at h; cases h
    | some q =>
      cases hr : readWs m r with
      | none => rw [hv, hr] at h; cases h
      | some qs => rw [hv, hr] at h; cases h; simp [readWs_len hr]
theorem spReadInt.mk {CE : Addr} {w : Str} {O : OH} {Q : D → OH → Prop} {E : Addr → OH → Prop} (hz : w.length ≤ 1000000) (q1 : ∀ n, readI w = some n → Q (.int n) O) (q2 : readI w = none → E CE O) : spReadInt CE [.str w] O Q E := ⟨w, rfl, hz, q1, q2⟩
local macro_rules | `(tactic| walk_at "X.v") => `(tactic| ((with_reducible refine' spReadInt.mk ?hz ?q1 ?q2); (case hz => walk_at "D.ari")))
def spReadPairs (CE : Addr) (K : PySem.W.Frag) : SpD := fun ds O Q E => ∃ (v : D) (m : Str), ds = [v, .str m] ∧ ((∃ x : Str, v = .str x ∧ x.length ≤ 900000 ∧ (m.length == 0) = false ∧ (∀ ps, readP m x = some ps → ∀ l, O l = none → Q (.ptr l) (updO O l (.lst (prs ps)))) ∧ (readP m x = none → E CE O)) ∨
  ∃ t, TyDX K O v t ∧ PySem.W.kitOne K t (.type "str") = some false ∧ E CE O)
abbrev sread_pairs : Stmt := top 15
theorem scread_pairs : FnScope ["text", "mark", "pairs", "word", "left", "found", "right"] ["text", "mark"] (defScope sread_pairs) := ⟨rfl, rfl, rfl, by decide +kernel, rfl, by decide +kernel, by decide +kernel⟩
theorem stread_pairs : ScopeOk ["text", "mark", "pairs", "word", "left", "found", "right"] ["isinstance", "str", "InvalidText", "read_integer"] (defScope sread_pairs) := ⟨by decide +kernel, by decide +kernel⟩
theorem okread_pairs {M : Dis} {P : Program} {w : World} {K : PySem.W.Frag} {mg : Str → Option Value} {base : Heap} {f : Addr} {fd : FuncData} (F : Fun K "read_pairs" "read_pairs" sread_pairs f fd) (bi : Bi mg) {CE : Addr} (TE : ErrC K mg "InvalidText" CE) (Fr : FnD M P w K mg base "read_integer" 1 (spReadInt CE)) :
    FnOk P w K mg base (M.cx P w) 2 f fd ["text", "mark"] (lift K (spReadPairs CE K)) := by
  refine fn_okC (k := 1) F scread_pairs stread_pairs (fun ds O Q E h => by obtain ⟨v, m, rfl, _⟩ := h; rfl) fun X B W eP ew eK em eb c hsc hst hfr hpo hpa hr tk ds O Q h => ?_
  subst eP ew eK em eb
  obtain ⟨v, m, rfl, h⟩ := h
  rcases h with ⟨x, rfl, hz, hm, hq, hE⟩ | ⟨t, ht, hk, hE⟩
  rotate_left
  · refine ds_cons (δ := [some _, some _, none, none, none, none, none]) ?_
    walk_at "G"
  refine ds_cons (δ := [some _, some _, none, none, none, none, none]) ?_
  walk_at "G"
  refine brS (fun h1 => ?_) (fun h1 => ?_)
  · walk_at "G"
    rename_i l hl
    exact sretI (hq [] (by unfold readP; rw [if_pos h1]) l hl)
  walk_at "G"
  rename_i l hl
  refine ds_for hpo c.calm (di_list ?_)
  walk_at "G"
  rename_i p hp
  have hlp : l ≠ p := fun e => by subst e; rw [updO_same] at hp; cases hp
  have hp' := free_of hp
  have hws : (Txt.split x " ").length ≤ x.length + 2 := PyProof.Rows.split_le x " "
  have hwl : ∀ w ∈ Txt.split x " ", w.length ≤ x.length := fun w hw => split_word hw
  refine rdR (by walk_at "D.rd") ⟨fun i δ' O' => ∃ e1 e2 e3 e4 acc, δ' = [some (D.str x), some (D.str m), some (D.ptr l), e1, e2, e3, e4] ∧ O' l = some (.lst (prs acc)) ∧ O' p = some (.lst ((Txt.split x " ").map D.str)) ∧
    readWs m ((Txt.split x " ").take i) = some acc ∧ SubO O O', ⟨none, none, none, none, [], rfl, by show _ = some (Cell.lst []); walk_at "D.lk", by walk_at "D.lk", rfl, by walk_at "D.sub"⟩, ?_, ?_, ?_⟩
  · rintro i δ' O' ⟨e1, e2, e3, e4, acc, _, _, h2, _⟩
    exact .cell h2
  · rintro i y δ' O' hi ⟨e1, e2, e3, e4, acc, rfl, g1, g2, g3, g4⟩
    rw [List.getElem?_map] at hi
    obtain ⟨w, hw, rfl⟩ := Option.map_eq_some_iff.mp hi
    have hwm := List.mem_of_getElem? hw
    have il := (List.getElem?_eq_some_iff.mp hw).1
    have hwz := hwl w hwm
    obtain ⟨f1, f2, f3⟩ := PyProof.Rows.fact_partition w m
    have ha : (prs acc).length = i := by rw [prs_len, readWs_len g3, List.length_take]; omega
    have hE2 : readW m w = none → W CE O := fun h => hE (by unfold readP; rw [if_neg h1]; exact readWs_bad hwm h)
    walk_at "G"
    refine brS (fun h2 => ?_) (fun h2 => ?_)
    · have hw := hE2 (readW_f h2)
      walk_at "G"
    walk_at "G"
    · intro a ra
      walk_at "G"
      · intro b rb
        walk_at "G"
        refine ⟨_, _, _, _, acc ++ [(a, b)], rfl, ?_, ?_, ?_, ?_⟩
        · rw [prs_snoc]; walk_at "D.lk"
        · walk_at "D.lk"
        · rw [take_snoc hw]; exact readWs_snoc (readW_pos h2 ra rb) g3
        · walk_at "D.sub"
      · intro rb
        exact ⟨O, g4, hE2 (readW_r rb)⟩
    · intro ra
      exact ⟨O, g4, hE2 (readW_l ra)⟩
  · rintro δ' O' ⟨e1, e2, e3, e4, acc, rfl, g1, g2, g3, g4⟩
    rw [List.length_map, List.take_length] at g3
    walk_at "G"
    exact ⟨updO O l (.lst (prs acc)), subO_put g1 g4, hq acc (by unfold readP; rw [if_neg h1]; exact g3) l hl⟩

/-! ### show_tree, show_points -/
def numS (n : Int) : Str := Str.ofString (toString n)
theorem emp_app {x : Str} : Str.empty ++ x = x := TL.ext_tl (by rw [TL.tl_append]; rfl)
theorem numS_len {n : Int} (h : 0 ≤ n) (h2 : n < 10 ^ 40) : (numS n).length ≤ 40 := by
  obtain ⟨k, rfl⟩ := Int.eq_ofNat_of_zero_le h
  rw [TL.len_tl, numS, TL.tl_num]
  exact TL.numL_len (by decide) (by omega)
def showP (m : Str) (p : Int × Int) : Str := numS p.1 ++ m ++ numS p.2
def showPs (m : Str) (ps : List (Int × Int)) : Str := if ps = [] then "-" else Txt.join " " (ps.map (showP m))
/-- rows whose numbers are short -/
def Short (ps : List (Int × Int)) : Prop := (∀ p ∈ ps, 0 ≤ p.1 ∧ p.1 < 10 ^ 40 ∧ 0 ≤ p.2 ∧ p.2 < 10 ^ 40) ∧ ps.length < 20000
theorem sum_le {α : Type} {f : α → Nat} {n : Nat} : ∀ {l : List α}, (∀ x ∈ l, f x ≤ n) → (l.map f).sum ≤ l.length * n
  | [], _ => Nat.zero_le _
  | x :: l, h => by
    have h1 := h x List.mem_cons_self
    have h2 := sum_le fun y hy => h y (List.mem_cons_of_mem _ hy)
    rw [List.map_cons, List.sum_cons, List.length_cons, Nat.succ_mul]
    omega
theorem showP_len {m : Str} {p : Int × Int} (hm : m.length = 1) (h : 0 ≤ p.1 ∧ p.1 < 10 ^ 40 ∧ 0 ≤ p.2 ∧ p.2 < 10 ^ 40) : (showP m p).length ≤ 81 := by
  unfold showP
  rw [strlen_app, strlen_app, hm]
  have := numS_len h.1 h.2.1
  have := numS_len h.2.2.1 h.2.2.2
  omega
theorem showPs_sz {m : Str} {ps : List (Int × Int)} (hm : m.length = 1) (h : Short ps) : ((ps.map (showP m)).map (·.length)).sum + (ps.map (showP m)).length * (Str.ofString " ").length ≤ 16777216 := by
  have h1 := sum_le (f := fun x : Str => x.length) (n := 81) (l := ps.map (showP m)) fun x hx => by
    obtain ⟨p, hp, rfl⟩ := List.mem_map.mp hx
    exact showP_len hm (h.1 p hp)
  rw [List.length_map] at h1 ⊢
  have h2 := h.2
  rw [show (Str.ofString " ").length = 1 from rfl]
  have h3 : ps.length * 81 ≤ 20000 * 81 := Nat.mul_le_mul_right _ (Nat.le_of_lt h2)
  omega
theorem ok_numS {n : Int} (h : 0 ≤ n) : PyData.strOk (numS n) = true := by
  obtain ⟨k, rfl⟩ := Int.eq_ofNat_of_zero_le h
  exact ok_num k
theorem showPs_ok {m : Str} {ps : List (Int × Int)} (hm : PyData.strOk m = true) (h : Short ps) : ∀ z ∈ ps.map (showP m), PyData.strOk z = true := fun z hz => by
  obtain ⟨p, hp, rfl⟩ := List.mem_map.mp hz
  obtain ⟨a, _, b, _⟩ := h.1 p hp
  exact ok_app (ok_app (ok_numS a) hm) (ok_numS b)
def spShowPts : SpD := fun ds O Q _ => ∃ (v : D) (ps : List (Int × Int)), ds = [v] ∧ RdL O v (prs ps) ∧ Short ps ∧ Q (.str (showPs "." ps)) O
abbrev sshow_points : Stmt := top 13
theorem scshow_points : FnScope ["points", "words", "node", "up"] ["points"] (defScope sshow_points) := ⟨rfl, rfl, rfl, by decide +kernel, rfl, by decide +kernel, by decide +kernel⟩
theorem stshow_points : ScopeOk ["points", "words"] [] (defScope sshow_points) := ⟨by decide +kernel, by decide +kernel⟩
theorem okshow_points {M : Dis} {P : Program} {w : World} {K : PySem.W.Frag} {mg : Str → Option Value} {base : Heap} {f : Addr} {fd : FuncData} (F : Fun K "show_points" "show_points" sshow_points f fd) (bi : Bi mg)  :
    FnOk P w K mg base (M.cx P w) 1 f fd ["points"] (lift K spShowPts) := by
  refine fn_okC (k := 0) F scshow_points stshow_points (fun ds O Q E h => by obtain ⟨v, ps, rfl, _⟩ := h; rfl) fun X B W eP ew eK em eb c hsc hst hfr hpo hpa hr tk ds O Q h => ?_
  subst eP ew eK em eb
  obtain ⟨v, ps, rfl, hv, hs, hq⟩ := h
  refine ds_cons (δ := [some _, none, none, none]) ?_
  refine c_setLc (own := [("node", 2), ("up", 3)]) (V' := ["node", "up"]) (L' := ["node", "up"]) (G' := []) c hsc (by decide +kernel) (by decide +kernel) (by walk_at "D.ix") ⟨by decide +kernel, by decide +kernel, by decide +kernel⟩ fun hB => ?_
  refine di_list ?_
  walk_at "G"
  refine rdR hv fun l hl => ⟨fun i acc O' => acc = (ps.take i).map (fun p => D.str (showP "." p)) ∧ O' l = some (.lst acc) ∧ SubO O O', ⟨rfl, by walk_at "D.lk", by walk_at "D.sub"⟩, fun i acc O' h => rdl_mono hv h.2.2, ?_, ?_⟩
  · rintro i y acc O' hi ⟨rfl, h1, h2⟩
    obtain ⟨a, b, hp, rfl⟩ := prs_at hi
    obtain ⟨a0, a1, b0, b1⟩ := hs.1 _ (List.mem_of_getElem? hp)
    simp only at a0 a1 b0 b1
    have la : (Str.ofString (toString a)).length ≤ 40 := numS_len a0 a1
    have lb : (Str.ofString (toString b)).length ≤ 40 := numS_len b0 b1
    have il : i < ps.length := (List.getElem?_eq_some_iff.mp hp).1
    have lz : ((ps.take i).map (fun p => D.str (showP "." p))).length < PySem.sizeLine := by rw [List.length_map, List.length_take, PySem.sizeLine_eq]; have := hs.2; omega
    walk_at "G"
    refine ⟨h1, lz, ?_, by walk_at "D.lk", ?_⟩
    · rw [take_snoc hp, List.map_append, emp_app]; rfl
    · walk_at "D.sub"
  · rintro acc O' ⟨rfl, h1, h2⟩
    rw [prs_len, List.take_length] at h1
    have h1' : O' l = some (.lst ((ps.map (showP ".")).map D.str)) := by rw [h1, List.map_map]; rfl
    have hz : ((ps.map (showP ".")).map (·.length)).sum + (ps.map (showP ".")).length * (Str.ofString " ").length ≤ 16777216 := showPs_sz (by decide) hs
    dsimp only [List.set]
    walk_at "G"
    refine cm_neSs (ps := ps.map (showP ".")) (qs := []) hr (.cell (by walk_at "D.lk")) (show RdL _ _ [] from .cell (by walk_at "D.lk")) (showPs_ok (by decide +kernel) hs) (fun _ h => by cases h) ?_
    walk_at "G"
    refine brNS (fun h3 => ?_) (fun h3 => ?_)
    · walk_at "G"
      exact ⟨O, by walk_at "D.sub", by rw [showPs, if_neg fun e => h3 (by rw [e]; rfl)] at hq; exact hq⟩
    · walk_at "G"
      exact ⟨O, by walk_at "D.sub", by rw [showPs, if_pos (List.map_eq_nil_iff.mp h3)] at hq; exact hq⟩
def spShowTree (CT : Addr) : SpD := fun ds O Q _ => ∃ (ps : List (Int × Int)), ds = [.obj CT (treeF ps)] ∧ Short ps ∧ Q (.str (showPs ":" ps)) O
abbrev sshow_tree : Stmt := top 12
theorem scshow_tree : FnScope ["tree", "words", "parent", "length"] ["tree"] (defScope sshow_tree) := ⟨rfl, rfl, rfl, by decide +kernel, rfl, by decide +kernel, by decide +kernel⟩
theorem stshow_tree : ScopeOk ["tree", "words"] [] (defScope sshow_tree) := ⟨by decide +kernel, by decide +kernel⟩
theorem okshow_tree {M : Dis} {P : Program} {w : World} {K : PySem.W.Frag} {mg : Str → Option Value} {base : Heap} {f : Addr} {fd : FuncData} (F : Fun K "show_tree" "show_tree" sshow_tree f fd) (bi : Bi mg) {CT : Addr} (T : TreeC K CT) (Vr : PrD M P w K mg base CT "roads" 1 (spRoads CT)) :
    FnOk P w K mg base (M.cx P w) 3 f fd ["tree"] (lift K (spShowTree CT)) := by
  refine fn_okC (k := 2) F scshow_tree stshow_tree (fun ds O Q E h => by obtain ⟨ps, rfl, _⟩ := h; rfl) fun X B W eP ew eK em eb c hsc hst hfr hpo hpa hr tk ds O Q h => ?_
  subst eP ew eK em eb
  obtain ⟨ps, rfl, hs, hq⟩ := h
  refine ds_cons (δ := [some _, none, none, none]) ?_
  refine c_setLc (own := [("parent", 2), ("length", 3)]) (V' := ["parent", "length"]) (L' := ["parent", "length"]) (G' := []) c hsc (by decide +kernel) (by decide +kernel) (by walk_at "D.ix") ⟨by decide +kernel, by decide +kernel, by decide +kernel⟩ fun hB => ?_
  have tcl := T.ic.cl
  refine di_list ?_
  refine de_prop Vr tcl hr (by decide) ?_
  walk_at "G"
  refine ⟨ps, rfl, by have := hs.2; omega, fun r hrr => ?_⟩
  refine rdR (.cell updO_same) fun l hl => ⟨fun i acc O' => acc = (ps.take i).map (fun p => D.str (showP ":" p)) ∧ O' l = some (.lst acc) ∧ SubO (updO O r (.lst (prs ps))) O', ⟨rfl, by walk_at "D.lk", by walk_at "D.sub"⟩, fun i acc O' h => .cell (h.2.2 r _ updO_same), ?_, ?_⟩
  · rintro i y acc O' hi ⟨rfl, h1, h2⟩
    obtain ⟨a, b, hp, rfl⟩ := prs_at hi
    obtain ⟨a0, a1, b0, b1⟩ := hs.1 _ (List.mem_of_getElem? hp)
    simp only at a0 a1 b0 b1
    have la : (Str.ofString (toString a)).length ≤ 40 := numS_len a0 a1
    have lb : (Str.ofString (toString b)).length ≤ 40 := numS_len b0 b1
    have il : i < ps.length := (List.getElem?_eq_some_iff.mp hp).1
    have lz : ((ps.take i).map (fun p => D.str (showP ":" p))).length < PySem.sizeLine := by rw [List.length_map, List.length_take, PySem.sizeLine_eq]; have := hs.2; omega
    walk_at "G"
    refine ⟨h1, lz, ?_, by walk_at "D.lk", ?_⟩
    · rw [take_snoc hp, List.map_append, emp_app]; rfl
    · walk_at "D.sub"
  · rintro acc O' ⟨rfl, h1, h2⟩
    rw [prs_len, List.take_length] at h1
    have h1' : O' l = some (.lst ((ps.map (showP ":")).map D.str)) := by rw [h1, List.map_map]; rfl
    have hz : ((ps.map (showP ":")).map (·.length)).sum + (ps.map (showP ":")).length * (Str.ofString " ").length ≤ 16777216 := showPs_sz (by decide) hs
    dsimp only [List.set]
    walk_at "G"
    refine cm_neSs (ps := ps.map (showP ":")) (qs := []) hr (.cell (by walk_at "D.lk")) (show RdL _ _ [] from .cell (by walk_at "D.lk")) (showPs_ok (by decide +kernel) hs) (fun _ h => by cases h) ?_
    walk_at "G"
    refine brNS (fun h3 => ?_) (fun h3 => ?_)
    · walk_at "G"
      exact ⟨O, by walk_at "D.sub", by rw [showPs, if_neg fun e => h3 (by rw [e]; rfl)] at hq; exact hq⟩
    · walk_at "G"
      exact ⟨O, by walk_at "D.sub", by rw [showPs, if_pos (List.map_eq_nil_iff.mp h3)] at hq; exact hq⟩
/-! ### read_points, read_tree -/
theorem delO_upd {O : OH} {x : Addr} {c : Cell} (h : O x = none) : delO (updO O x c) x = O := by
  funext b
  unfold delO updO
  split
  · rename_i e; rw [e, h]
  · rfl
theorem tree_make {CT : Addr} {r : D} {ps : List (Int × Int)} {O : OH} {Q : D → OH → Prop} {E : Addr → OH → Prop} (h : RdL O r (prs ps)) (hok : TreeOk ps) (hz : ps.length < 1000000) (q : Q (.obj CT (treeF ps)) O) :
    initAt (spTreeInit CT) CT [r] O (fun d O1 => ∃ d' O', FzR d O1 d' O' ∧ Q d' O') E := fun x hx =>
  ⟨x, r, ps, rfl, updO_same, rdl_mono h (subO_new hx SubO.refl), hok, hz, fun O' f => ⟨rfl, _, _, by rw [delO_upd hx] at f; exact f, q⟩⟩
theorem spReadPairs.str {CE : Addr} {K : PySem.W.Frag} {x m : Str} {O : OH} {Q : D → OH → Prop} {E : Addr → OH → Prop} (hz : x.length ≤ 900000) (hm : (m.length == 0) = false) (hq : ∀ ps, readP m x = some ps → ∀ l, O l = none → Q (.ptr l) (updO O l (.lst (prs ps)))) (hE : readP m x = none → E CE O) :
    spReadPairs CE K [.str x, .str m] O Q E := ⟨_, m, rfl, .inl ⟨x, rfl, hz, hm, hq, hE⟩⟩
theorem spReadPairs.no {CE : Addr} {K : PySem.W.Frag} {v : D} {t : Value} {m : Str} {O : OH} {Q : D → OH → Prop} {E : Addr → OH → Prop} (h : TyDX K O v t) (hk : PySem.W.kitOne K t (.type "str") = some false) (hE : E CE O) : spReadPairs CE K [v, .str m] O Q E := ⟨v, m, rfl, .inr ⟨t, h, hk, hE⟩⟩
def spReadPoints (CE : Addr) (K : PySem.W.Frag) : SpD := fun ds O Q E => ∃ v : D, ds = [v] ∧ ((∃ x : Str, v = .str x ∧ x.length ≤ 900000 ∧ (∀ ps, readP "." x = some ps → ∀ l, O l = none → Q (.ptr l) (updO O l (.lst (prs ps)))) ∧ (readP "." x = none → E CE O)) ∨
  ∃ t, TyDX K O v t ∧ PySem.W.kitOne K t (.type "str") = some false ∧ E CE O)
abbrev sread_points : Stmt := top 17
theorem scread_points : FnScope ["text"] ["text"] (defScope sread_points) := ⟨rfl, rfl, rfl, by decide +kernel, rfl, by decide +kernel, by decide +kernel⟩
theorem stread_points : ScopeOk ["text"] ["read_pairs"] (defScope sread_points) := ⟨by decide +kernel, by decide +kernel⟩
theorem okread_points {M : Dis} {P : Program} {w : World} {K : PySem.W.Frag} {mg : Str → Option Value} {base : Heap} {f : Addr} {fd : FuncData} (F : Fun K "read_points" "read_points" sread_points f fd) (bi : Bi mg) {CE : Addr} (Fr : FnD M P w K mg base "read_pairs" 2 (spReadPairs CE K)) :
    FnOk P w K mg base (M.cx P w) 3 f fd ["text"] (lift K (spReadPoints CE K)) := by
  refine fn_okC (k := 2) F scread_points stread_points (fun ds O Q E h => by obtain ⟨v, rfl, _⟩ := h; rfl) fun X B W eP ew eK em eb c hsc hst hfr hpo hpa hr tk ds O Q h => ?_
  subst eP ew eK em eb
  obtain ⟨v, rfl, h⟩ := h
  rcases h with ⟨x, rfl, hz, hq, hE⟩ | ⟨t, ht, hk, hE⟩
  · refine ds_cons (δ := [some _]) ?_
    walk_at "G"
    refine spReadPairs.str hz rfl (fun ps hp l hl => ?_) fun hp => ⟨O, SubO.refl, hE hp⟩
    have := hq ps hp l hl
    walk_at "G"
  · refine ds_cons (δ := [some _]) ?_
    walk_at "G"
    exact spReadPairs.no ht hk ⟨O, SubO.refl, hE⟩
/-- .. what is no tree is left out here -/
def spReadTree (CE CT : Addr) (K : PySem.W.Frag) : SpD := fun ds O Q E => ∃ v : D, ds = [v] ∧ ((∃ x : Str, v = .str x ∧ x.length ≤ 900000 ∧ (∀ ps, readP ":" x = some ps → TreeOk ps ∧ Q (.obj CT (treeF ps)) O) ∧ (readP ":" x = none → E CE O)) ∨
  ∃ t, TyDX K O v t ∧ PySem.W.kitOne K t (.type "str") = some false ∧ E CE O)
theorem readP_len {m x : Str} {ps : List (Int × Int)} (h : readP m x = some ps) : ps.length ≤ x.length + 2 := by
  unfold readP at h
  split at h
  · cases h; exact Nat.zero_le _
  · rw [readWs_len h]; exact PyProof.Rows.split_le x " "
abbrev sread_tree : Stmt := top 16
theorem scread_tree : FnScope ["text", "roads", "e"] ["text"] (defScope sread_tree) := ⟨rfl, rfl, rfl, by decide +kernel, rfl, by decide +kernel, by decide +kernel⟩
theorem stread_tree : ScopeOk ["text", "roads", "e"] ["read_pairs", "Tree", "InvalidTree", "InvalidText"] (defScope sread_tree) := ⟨by decide +kernel, by decide +kernel⟩
theorem okread_tree {M : Dis} {P : Program} {w : World} {K : PySem.W.Frag} {mg : Str → Option Value} {base : Heap} {f : Addr} {fd : FuncData} (F : Fun K "read_tree" "read_tree" sread_tree f fd) (bi : Bi mg) {CE CT : Addr} (Fr : FnD M P w K mg base "read_pairs" 2 (spReadPairs CE K)) (Mt : ∀ M, MkD M P w K mg base "Tree" CT 3 (spTreeInit CT)) :
    FnOk P w K mg base (M.cx P w) 5 f fd ["text"] (lift K (spReadTree CE CT K)) := by
  refine fn_okC (k := 4) F scread_tree stread_tree (fun ds O Q E h => by obtain ⟨v, rfl, _⟩ := h; rfl) fun X B W eP ew eK em eb c hsc hst hfr hpo hpa hr tk ds O Q h => ?_
  subst eP ew eK em eb
  obtain ⟨v, rfl, h⟩ := h
  rcases h with ⟨x, rfl, hz, hq, hE⟩ | ⟨t, ht, hk, hE⟩
  · refine ds_cons (δ := [some _, none, none]) ?_
    walk_at "G"
    refine spReadPairs.str hz rfl (fun ps hp l hl => ?_) fun hp => ⟨O, SubO.refl, hE hp⟩
    obtain ⟨hok, hQ⟩ := hq ps hp
    have hpl := readP_len hp
    walk_at "G"
    refine ds_try0 ?_
    have cn := ctx_nox c
    have Mt' := Mt M
    refine ds_cons ?_
    refine ds_ret ?_
    refine de_frz (de_make Mt' hr (by decide) (by walk_at "D.gl") ?_)
    walk_at "G"
    refine tree_make (.cell (by walk_at "D.lk")) hok (by omega) ?_
    exact ⟨O, by walk_at "D.sub", hQ⟩
  · refine ds_cons (δ := [some _, none, none]) ?_
    walk_at "G"
    exact spReadPairs.no ht hk ⟨O, SubO.refl, hE⟩

/-! ### the law's own defs -/
def spDigits : SpD := fun ds O Q _ => ∃ (ns : List Int) (at_ : Nat), ds = [.lsk (ns.map D.int), .int at_] ∧ (∀ n ∈ ns, Builtin.Int.intBits n ≤ 1048576) ∧ at_ < 100 ∧ ∀ w l, O l = none → Q (.ptr l) (updO O l (.lst [.int w]))
theorem bits2 : (Builtin.Int.intBits 2 : Int) ≤ 2 := by decide
theorem cdivS {i j : Int} (h : 0 < j) (h2 : j < 2 ^ 64) : CDivW i j := cdivB h (by omega)
abbrev s_law_digits : Stmt := top 19
theorem sc_law_digits : FnScope ["script", "at", "cell", "value", "wide", "turn"] ["script", "at"] (defScope s_law_digits) := ⟨rfl, rfl, rfl, by decide +kernel, rfl, by decide +kernel, by decide +kernel⟩
theorem st_law_digits : ScopeOk ["script", "at", "cell", "value", "wide", "turn"] ["len", "int", "range"] (defScope s_law_digits) := ⟨by decide +kernel, by decide +kernel⟩
theorem ok_law_digits {M : Dis} {P : Program} {w : World} {K : PySem.W.Frag} {mg : Str → Option Value} {base : Heap} {f : Addr} {fd : FuncData} (F : Fun K "_law_digits" "_law_digits" s_law_digits f fd) (bi : Bi mg)  :
    FnOk P w K mg base (M.cx P w) 1 f fd ["script", "at"] (lift K spDigits) := by
  refine fn_okC (k := 0) F sc_law_digits st_law_digits (fun ds O Q E h => by obtain ⟨ns, n, rfl, _⟩ := h; rfl) fun X B W eP ew eK em eb c hsc hst hfr hpo hpa hr tk ds O Q h => ?_
  subst eP ew eK em eb
  obtain ⟨ns, n, rfl, hb, hn, hq⟩ := h
  have hlen : (ns.map D.int).length = ns.length := List.length_map _
  refine ds_cons (δ := [some _, some _, none, none, none, none]) ?_
  walk_at "D"
  walk_at "D"
  walk_at "D"
  walk_at "D"
  refine ds_cut (fun δ' O' => O' = O ∧ ∃ cell, Builtin.Int.intBits cell ≤ 1048576 ∧ δ' = [some (D.lsk (ns.map D.int)), some (.int n), some (.int cell), none, none, none]) ?_ ?_
  · walk_at "G"
    refine brS (fun h1 => ?_) (fun h1 => ?_)
    · walk_at "G"
      obtain ⟨x, hx, _, hat⟩ := map_atI (f := D.int) (l := ns) (i := (n : Int)) (by omega) (by omega)
      refine ix_lstD .lsk hat ?_
      walk_at "G"
      exact ⟨rfl, x, hb x hx, rfl⟩
    · walk_at "G"
      exact ⟨rfl, 0, by decide, rfl⟩
  rintro δ' O' ⟨rfl, cell, hc, rfl⟩
  walk_at "G"
  refine brS (fun h1 => ?_) (fun h1 => ?_)
  · walk_at "G"
    rename_i l hl
    exact sretI (hq _ l hl)
  walk_at "G"
  refine bi_mulX (show (Builtin.Int.intBits cell : Int) + (Builtin.Int.intBits 2 : Int) ≤ 134217728 by have := bits2; omega) ?_
  walk_at "G"
  refine ds_for hpo c.calm (di_range1 bi.range (by walk_at "D.gl") ?_)
  walk_at "G"
  refine ⟨by omega, fun i δ' O'' => O'' = O' ∧ ∃ v w e, δ' = [some (D.lsk (ns.map D.int)), some (.int n), some (.int cell), some (.int v), some (.int w), e] ∧ (0 ≤ v ∧ v < 2147483629) ∧ 0 ≤ w ∧ w < 10 ^ (6 * i),
    ⟨rfl, _, _, _, rfl, ⟨Int.emod_nonneg _ (by decide), Int.emod_lt_of_pos _ (by decide)⟩, by decide, by decide⟩, fun _ _ _ _ => True.intro, ?_, ?_⟩
  · rintro i y δ' O'' hi ⟨rfl, v, wd, e, rfl, ⟨v0, v1⟩, w0, w1⟩
    obtain ⟨rfl, hi2⟩ := upto_get hi
    have hi3 : i < 36 := hi2
    walk_at "G"
    refine bi_mul (cmulN (6 * i) w0 w1 (by decide) (by omega)) ?_
    walk_at "G"
    have m0 := Int.emod_nonneg (((v * v + v * (2 * (0 + (i : Int)) + 3)) % 2147483629 + 48271 * (0 + (i : Int)) + 17 * n) % 2147483629 / 11) (show (999983 : Int) ≠ 0 by decide)
    have m1 := Int.emod_lt_of_pos (((v * v + v * (2 * (0 + (i : Int)) + 3)) % 2147483629 + 48271 * (0 + (i : Int)) + 17 * n) % 2147483629 / 11) (show (0 : Int) < 999983 by decide)
    have e10 : (10 : Int) ^ (6 * (i + 1)) = 10 ^ (6 * i) * 1000000 := by rw [show 6 * (i + 1) = 6 * i + 6 by omega, Int.pow_add]; rfl
    refine ⟨rfl, _, _, _, rfl, ⟨Int.emod_nonneg _ (by decide), Int.emod_lt_of_pos _ (by decide)⟩, by omega, by rw [e10]; omega⟩
  · rintro δ' O'' ⟨rfl, v, wd, e, rfl, _⟩
    walk_at "G"
    rename_i l hl
    exact sretI (hq _ l hl)

theorem spTake.mk {a : Addr} {wv m : Int} {O : OH} {Q : D → OH → Prop} {E : Addr → OH → Prop} (h : O a = some (.lst [.int wv])) (hm : 0 < m) (hm2 : m < 2 ^ 200) (q : ∀ r w', 0 ≤ r → r < m → Q (.int r) (updO O a (.lst [.int w']))) : spTake [.ptr a, .int m] O Q E :=
  ⟨a, wv, m, rfl, h, hm, hm2, q _ _ (Int.emod_nonneg _ (by omega)) (Int.emod_lt_of_pos _ hm)⟩
local macro_rules | `(tactic| walk_at "X.v") => `(tactic| ((with_reducible refine' spTake.mk ?h ?hm ?hm2 ?q); (case h => walk_at "D.lk"); (case hm => walk_at "D.ari"); (case hm2 => walk_at "D.ari"); intro _ _ _ _))
abbrev s_law_whole : Stmt := top 21
theorem sc_law_whole : FnScope ["found"] ["found"] (defScope s_law_whole) := ⟨rfl, rfl, rfl, by decide +kernel, rfl, by decide +kernel, by decide +kernel⟩
theorem st_law_whole : ScopeOk ["found"] ["isinstance", "int", "bool"] (defScope s_law_whole) := ⟨by decide +kernel, by decide +kernel⟩
theorem ok_law_whole {M : Dis} {P : Program} {w : World} {K : PySem.W.Frag} {mg : Str → Option Value} {base : Heap} {f : Addr} {fd : FuncData} (F : Fun K "_law_whole" "_law_whole" s_law_whole f fd) (bi : Bi mg)  :
    FnOk P w K mg base (M.cx P w) 1 f fd ["found"] (lift K (spIsInt K)) := by
  refine fn_okC (k := 0) F sc_law_whole st_law_whole (fun ds O Q E h => by obtain ⟨x, b, rfl, _⟩ := h; rfl) fun X B W eP ew eK em eb c hsc hst hfr hpo hpa hr tk ds O Q h => ?_
  subst eP ew eK em eb
  obtain ⟨x, b, rfl, ⟨ht, h1, h2⟩, hq⟩ := h
  refine ds_cons (δ := [some _]) ?_
  rename_i b1 b2
  cases b1 <;> cases b2 <;> walk_at "G"
theorem tree_nil : TreeOk [] := fun i p h => by simp at h
theorem tree_snoc {ps : List (Int × Int)} {a b : Int} (h : TreeOk ps) (h0 : 0 ≤ a) (h1 : a ≤ ps.length) (h2 : 1 ≤ b) : TreeOk (ps ++ [(a, b)]) := fun i p hp => by
  rcases Nat.lt_or_ge i ps.length with hi | hi
  · rw [List.getElem?_append_left hi] at hp; exact h i p hp
  · rw [List.getElem?_append_right hi] at hp
    obtain ⟨hl, e⟩ := List.getElem?_eq_some_iff.mp hp
    simp only [List.length_singleton] at hl
    have : i = ps.length := by omega
    subst this
    simp at e
    subst e
    exact ⟨h0, h1, h2⟩
def spLRoads : SpD := fun ds O Q _ => ∃ (a : Addr) (wv most lo : Int), ds = [.ptr a, .int most, .int lo] ∧ O a = some (.lst [.int wv]) ∧ 0 < most ∧ most < 1000 ∧ 0 < lo ∧ lo < 2 ^ 100 ∧
  ∀ ps w' l, TreeOk ps → (∀ p ∈ ps, p.2 ≤ lo) → (ps.length : Int) < most → O l = none → Q (.ptr l) (updO (updO O a (.lst [.int w'])) l (.lst (prs ps)))
abbrev s_law_roads : Stmt := top 22
theorem sc_law_roads : FnScope ["digits", "most", "longest", "roads", "node"] ["digits", "most", "longest"] (defScope s_law_roads) := ⟨rfl, rfl, rfl, by decide +kernel, rfl, by decide +kernel, by decide +kernel⟩
theorem st_law_roads : ScopeOk ["digits", "most", "longest", "roads", "node"] ["range", "_law_take"] (defScope s_law_roads) := ⟨by decide +kernel, by decide +kernel⟩
theorem ok_law_roads {M : Dis} {P : Program} {w : World} {K : PySem.W.Frag} {mg : Str → Option Value} {base : Heap} {f : Addr} {fd : FuncData} (F : Fun K "_law_roads" "_law_roads" s_law_roads f fd) (bi : Bi mg) (Ft : FnD M P w K mg base "_law_take" 1 spTake) :
    FnOk P w K mg base (M.cx P w) 2 f fd ["digits", "most", "longest"] (lift K spLRoads) := by
  refine fn_okC (k := 1) F sc_law_roads st_law_roads (fun ds O Q E h => by obtain ⟨a, wv, most, lo, rfl, _⟩ := h; rfl) fun X B W eP ew eK em eb c hsc hst hfr hpo hpa hr tk ds O Q h => ?_
  subst eP ew eK em eb
  obtain ⟨a, wv, most, lo, rfl, ha, hm0, hm1, hl0, hl1, hq⟩ := h
  refine ds_cons (δ := [some _, some _, some _, none, none]) ?_
  walk_at "G"
  rename_i l hl
  refine ds_for hpo c.calm (di_range2 bi.range (by walk_at "D.gl") ?_)
  walk_at "G"
  rename_i r w1 r0 r1
  have hla : l ≠ a := fun e => by subst e; rw [ha] at hl; cases hl
  have eN : (1 + r - 1).toNat = r.toNat := by congr 1; omega
  refine ⟨fun i δ' O' => ∃ ps w' e, δ' = [some (D.ptr a), some (D.int most), some (D.int lo), some (D.ptr l), e] ∧ O' a = some (.lst [.int w']) ∧ O' l = some (.lst (prs ps)) ∧ SubO (delO O a) O' ∧ TreeOk ps ∧ ps.length = i ∧ ∀ p ∈ ps, p.2 ≤ lo,
    ⟨[], w1, none, rfl, by walk_at "D.lk", by show _ = some (Cell.lst []); walk_at "D.lk", by walk_at "D.sub", tree_nil, rfl, (fun p h => nomatch h)⟩, fun _ _ _ _ => True.intro, ?_, ?_⟩
  · rintro i y δ' O' hi ⟨ps, w2, e, rfl, h1, h2, h3, h4, h5, h6⟩
    obtain ⟨rfl, hi2⟩ := upto_get hi
    have hz : (prs ps).length < PySem.sizeLine := by rw [prs_len, h5, PySem.sizeLine_eq]; omega
    walk_at "G"
    rename_i b w3 b0 b1 c' w4 c0 c1
    refine ⟨ps ++ [(b, 1 + c')], w4, _, rfl, by walk_at "D.lk", by rw [prs_snoc]; walk_at "D.lk", by walk_at "D.sub", tree_snoc h4 (by omega) (by omega) (by omega), by simp [h5], fun p hp => ?_⟩
    rcases List.mem_append.mp hp with hp | hp
    · exact h6 p hp
    · rw [List.mem_singleton.mp hp]; show 1 + c' ≤ lo; omega
  · rintro δ' O' ⟨ps, w2, e, rfl, h1, h2, h3, h4, h5, h6⟩
    rw [upto_len] at h5
    walk_at "G"
    exact ⟨updO (updO O a (.lst [.int w2])) l (.lst (prs ps)), subO_put h2 (subO_del h1 h3), hq ps w2 l h4 h6 (by omega) hl⟩

theorem spLRoads.mk {a : Addr} {wv most lo : Int} {O : OH} {Q : D → OH → Prop} {E : Addr → OH → Prop} (h : O a = some (.lst [.int wv])) (h0 : 0 < most) (h1 : most < 1000) (h2 : 0 < lo) (h3 : lo < 2 ^ 100)
    (q : ∀ ps w' l, TreeOk ps → (∀ p ∈ ps, p.2 ≤ lo) → (ps.length : Int) < most → O l = none → Q (.ptr l) (updO (updO O a (.lst [.int w'])) l (.lst (prs ps)))) : spLRoads [.ptr a, .int most, .int lo] O Q E := ⟨a, wv, most, lo, rfl, h, h0, h1, h2, h3, q⟩
local macro_rules | `(tactic| walk_at "X.v") => `(tactic| ((with_reducible refine' spLRoads.mk ?h ?h0 ?h1 ?h2 ?h3 ?q); (case h => walk_at "D.lk"); (case h0 => walk_at "D.ari"); (case h1 => walk_at "D.ari"); (case h2 => walk_at "D.ari"); (case h3 => walk_at "D.ari"); intro _ _ _ _ _ _ _))
theorem tl_cut_to {z : Str} {i : Int} (h : 0 ≤ i) : TL.tl (cutS z none (some i)) = (TL.tl z).take i.toNat := by
  show ((TL.tl z).drop 0).take ((if i < 0 then (i + (z.length : Int)).toNat else min i.toNat z.length) - 0) = _
  rw [if_neg (by omega), List.drop_zero, Nat.sub_zero, TL.len_tl, ← List.take_eq_take_min]
theorem fold_lt : ∀ (l : List Nat) (a : Nat), NumText.AllDigits l → l.foldl (fun acc c => acc * 10 + (c - 48)) a < (a + 1) * 10 ^ l.length
  | [], a, _ => by simp
  | c :: l, a, h => by
    have hc := h c List.mem_cons_self
    have ih := fold_lt l (a * 10 + (c - 48)) fun x hx => h x (List.mem_cons_of_mem _ hx)
    rw [List.foldl_cons, List.length_cons]
    refine Nat.lt_of_lt_of_le ih ?_
    rw [Nat.pow_succ, Nat.mul_comm (10 ^ l.length) 10, ← Nat.mul_assoc]
    exact Nat.mul_le_mul_right _ (by omega)
theorem val_lt {l : List Nat} {n : Nat} (h : NumText.AllDigits l) (hl : l.length ≤ n) : NumText.digitsVal l < 10 ^ n :=
  Nat.lt_of_lt_of_le (by have := fold_lt l 0 h; rw [Nat.zero_add, Nat.one_mul] at this; exact this) (Nat.pow_le_pow_right (by decide) hl)
def spNumber : SpD := fun ds O Q _ => ∃ (a : Addr) (wv : Int), ds = [.ptr a] ∧ O a = some (.lst [.int wv]) ∧ ∀ n w', 0 ≤ n → n < 10 ^ 30 → Q (.int n) (updO O a (.lst [.int w']))
abbrev s_law_number : Stmt := top 23
theorem sc_law_number : FnScope ["digits", "shape", "text"] ["digits"] (defScope s_law_number) := ⟨rfl, rfl, rfl, by decide +kernel, rfl, by decide +kernel, by decide +kernel⟩
theorem st_law_number : ScopeOk ["digits", "shape", "text"] ["_law_take", "str", "int"] (defScope s_law_number) := ⟨by decide +kernel, by decide +kernel⟩
theorem ok_law_number {M : Dis} {P : Program} {w : World} {K : PySem.W.Frag} {mg : Str → Option Value} {base : Heap} {f : Addr} {fd : FuncData} (F : Fun K "_law_number" "_law_number" s_law_number f fd) (bi : Bi mg) (Ft : FnD M P w K mg base "_law_take" 1 spTake) :
    FnOk P w K mg base (M.cx P w) 2 f fd ["digits"] (lift K spNumber) := by
  refine fn_okC (k := 1) F sc_law_number st_law_number (fun ds O Q E h => by obtain ⟨a, wv, rfl, _⟩ := h; rfl) fun X B W eP ew eK em eb c hsc hst hfr hpo hpa hr tk ds O Q h => ?_
  subst eP ew eK em eb
  obtain ⟨a, wv, rfl, ha, hq⟩ := h
  refine ds_cons (δ := [some _, none, none]) ?_
  walk_at "G"
  rename_i s w1 s0 s1
  refine brS (fun h1 => ?_) (fun h1 => ?_)
  · walk_at "G"
    rename_i r w2 r0 r1
    have := hq r w2 r0 (by omega)
    rw [updO_upd]
    walk_at "G"
  walk_at "G"
  refine brS (fun h2 => ?_) (fun h2 => ?_)
  · walk_at "G"
    rename_i r w2 r0 r1
    have := hq r w2 r0 (by omega)
    rw [updO_upd]
    walk_at "G"
  walk_at "G"
  rename_i g w2 g0 g1 r w3 r0 r1
  obtain ⟨n, rfl⟩ := Int.eq_ofNat_of_zero_le g0
  have hnl : (TL.numL n).length ≤ 30 := TL.numL_len (by decide) (by omega)
  have hsl : (Str.ofString (toString ((n : Nat) : Int))).length = (TL.numL n).length := by rw [TL.len_tl, TL.tl_num]
  refine sl_strD (by rw [hsl, PySem.sizeLine_eq]; omega) ?_
  walk_at "G"
  have htl : TL.tl (cutS (Str.ofString (toString ((n : Nat) : Int))) none (some (1 + r))) = (TL.numL n).take (1 + r).toNat := by rw [tl_cut_to (by omega), TL.tl_num]
  have hdg : NumText.AllDigits (TL.tl (cutS (Str.ofString (toString ((n : Nat) : Int))) none (some (1 + r)))) := fun c hc => by rw [htl] at hc; exact TL.numL_digits n c (List.mem_of_mem_take hc)
  have hln : (TL.tl (cutS (Str.ofString (toString ((n : Nat) : Int))) none (some (1 + r)))).length ≤ 30 := by rw [htl, List.length_take]; omega
  have hne : TL.tl (cutS (Str.ofString (toString ((n : Nat) : Int))) none (some (1 + r))) ≠ [] := fun e => by
    have h0 := TL.numL_ne n
    have h1 := congrArg List.length (htl.symm.trans e)
    rw [List.length_take, List.length_nil] at h1
    have : 0 < (TL.numL n).length := List.length_pos_iff.mpr h0
    omega
  refine ca_intS (intText_digits hdg hne (by rw [TL.len_tl]; omega)) (by rw [TL.len_tl]; omega) ?_
  have hv := val_lt hdg hln
  have := hq _ w3 (Int.natCast_nonneg (NumText.digitsVal (TL.tl (cutS (Str.ofString (toString ((n : Nat) : Int))) none (some (1 + r)))))) (by omega)
  rw [updO_upd, updO_upd]
  walk_at "G"
theorem spNumber.mk {a : Addr} {wv : Int} {O : OH} {Q : D → OH → Prop} {E : Addr → OH → Prop} (h : O a = some (.lst [.int wv])) (q : ∀ n w', 0 ≤ n → n < 10 ^ 30 → Q (.int n) (updO O a (.lst [.int w']))) : spNumber [.ptr a] O Q E := ⟨a, wv, rfl, h, q⟩
local macro_rules | `(tactic| walk_at "X.v") => `(tactic| ((with_reducible refine' spNumber.mk ?h ?q); (case h => walk_at "D.lk"); intro _ _ _ _))
def spLText : SpD := fun ds O Q _ => ∃ (v : D) (ps : List (Int × Int)) (m : Str), ds = [v, .str m] ∧ RdL O v (prs ps) ∧ Short ps ∧ m.length = 1 ∧ PyData.strOk m = true ∧ Q (.str (showPs m ps)) O
abbrev s_law_text : Stmt := top 24
theorem sc_law_text : FnScope ["pairs", "mark", "one", "two"] ["pairs", "mark"] (defScope s_law_text) := ⟨rfl, rfl, rfl, by decide +kernel, rfl, by decide +kernel, by decide +kernel⟩
theorem st_law_text : ScopeOk ["pairs", "mark"] [] (defScope s_law_text) := ⟨by decide +kernel, by decide +kernel⟩
theorem ok_law_text {M : Dis} {P : Program} {w : World} {K : PySem.W.Frag} {mg : Str → Option Value} {base : Heap} {f : Addr} {fd : FuncData} (F : Fun K "_law_text" "_law_text" s_law_text f fd) (bi : Bi mg)  :
    FnOk P w K mg base (M.cx P w) 1 f fd ["pairs", "mark"] (lift K spLText) := by
  refine fn_okC (k := 0) F sc_law_text st_law_text (fun ds O Q E h => by obtain ⟨v, ps, m, rfl, _⟩ := h; rfl) fun X B W eP ew eK em eb c hsc hst hfr hpo hpa hr tk ds O Q h => ?_
  subst eP ew eK em eb
  obtain ⟨v, ps, m, rfl, hv, hs, hm, hok, hq⟩ := h
  refine ds_cons (δ := [some _, some _, none, none]) ?_
  walk_at "G"
  rename_i p hp
  refine brNS (fun h3 => ?_) (fun h3 => ?_)
  · walk_at "G"
    refine c_lc (own := [("one", 2), ("two", 3)]) (V' := ["mark", "two", "one"]) (L' := ["one", "two"]) (G' := ["str"]) c hsc (by decide +kernel) ⟨by decide +kernel, by decide +kernel, by decide +kernel⟩ fun hB => ?_
    refine di_list ?_
    walk_at "G"
    refine rdR (rdl_mono hv (by walk_at "D.sub")) fun l hl => ⟨fun i acc O' => acc = (ps.take i).map (fun p => D.str (showP m p)) ∧ O' l = some (.lst acc) ∧ SubO O O', ⟨rfl, by walk_at "D.lk", by walk_at "D.sub"⟩, fun i acc O' h => rdl_mono hv h.2.2, ?_, ?_⟩
    · rintro i y acc O' hi ⟨rfl, h1, h2⟩
      obtain ⟨a, b, hp, rfl⟩ := prs_at hi
      obtain ⟨a0, a1, b0, b1⟩ := hs.1 _ (List.mem_of_getElem? hp)
      simp only at a0 a1 b0 b1
      have la : (Str.ofString (toString a)).length ≤ 40 := numS_len a0 a1
      have lb : (Str.ofString (toString b)).length ≤ 40 := numS_len b0 b1
      have lz : ((ps.take i).map (fun p => D.str (showP m p))).length < PySem.sizeLine := by rw [List.length_map, List.length_take, PySem.sizeLine_eq]; have := hs.2; omega
      walk_at "G"
      refine ⟨h1, lz, ?_, by walk_at "D.lk", ?_⟩
      · rw [take_snoc hp, List.map_append]; rfl
      · walk_at "D.sub"
    · rintro acc O' ⟨rfl, h1, h2⟩
      rw [prs_len, List.take_length] at h1
      have h1' : O' l = some (.lst ((ps.map (showP m)).map D.str)) := by rw [h1, List.map_map]; rfl
      have hz : ((ps.map (showP m)).map (·.length)).sum + (ps.map (showP m)).length * (Str.ofString " ").length ≤ 16777216 := showPs_sz hm hs
      walk_at "G"
      exact ⟨O, h2, by rw [showPs, if_neg h3] at hq; exact hq⟩
  · walk_at "G"
    exact ⟨O, by walk_at "D.sub", by rw [showPs, if_pos h3] at hq; exact hq⟩

/-! ### what was shown is read again -/
def Small (ps : List (Int × Int)) : Prop := (∀ p ∈ ps, 0 ≤ p.1 ∧ p.1 < 10 ^ 30 ∧ 0 ≤ p.2 ∧ p.2 < 10 ^ 30) ∧ ps.length < 1000
theorem Small.short {ps : List (Int × Int)} (h : Small ps) : Short ps := ⟨fun p hp => by obtain ⟨a, b, c, d⟩ := h.1 p hp; exact ⟨a, by omega, c, by omega⟩, by have := h.2; omega⟩
theorem numL_head : ∀ (n : Nat), 1 ≤ n → (TL.numL n).head? ≠ some 48 := by
  intro n
  induction n using Nat.strongRecOn with
  | _ n ih =>
    intro hn
    by_cases h : n < 10
    · rw [TL.numL_lt h]
      simp
      omega
    · rw [TL.numL_step (by omega)]
      have h1 := ih (n / 10) (by omega) (by omega)
      have h2 := TL.numL_ne (n / 10)
      cases e : TL.numL (n / 10) with
      | nil => exact absurd e h2
      | cons c r => rw [e] at h1; exact h1
theorem readI_num {n : Int} (h0 : 0 ≤ n) (h1 : n < 10 ^ 30) : readI (numS n) = some n := by
  obtain ⟨k, rfl⟩ := Int.eq_ofNat_of_zero_le h0
  have tl : TL.tl (numS (k : Int)) = TL.numL k := TL.tl_num k
  have hl : (numS (k : Int)).length = (TL.numL k).length := by rw [TL.len_tl, tl]
  have h30 : (TL.numL k).length ≤ 30 := TL.numL_len (by decide) (by omega)
  have hp : 0 < (TL.numL k).length := List.length_pos_iff.mpr (TL.numL_ne k)
  have hn : isNum (numS (k : Int)) = true := by
    unfold isNum
    have e1 : (numS (k : Int) == "") = false := by
      cases hh : (numS (k : Int) == "") with
      | false => rfl
      | true =>
        have := congrArg Str.length (eq_of_beq hh)
        rw [hl, show ((("" : Str)).length) = 0 from rfl] at this
        omega
    have e2 : (TL.numL k).all digC = true := List.all_eq_true.mpr fun c hc => by
      have := TL.numL_digits k c hc
      simp [digC]; omega
    rw [e1, hl, decide_eq_true h30, tl, e2]
    by_cases hk : k = 0
    · subst hk
      rw [TL.numL_lt (by decide)]
      rfl
    · rw [decide_eq_false (numL_head k (by omega))]; rfl
  unfold readI
  rw [if_pos hn, tl, TL.numL_val]
theorem readW_show {m : Str} {s : Nat} {S : List Nat} (ey : TL.tl m = s :: S) (hs : s < 48 ∨ 57 < s) {p : Int × Int} (h : 0 ≤ p.1 ∧ p.1 < 10 ^ 30 ∧ 0 ≤ p.2 ∧ p.2 < 10 ^ 30) : readW m (showP m p) = some p := by
  obtain ⟨a0, a1, b0, b1⟩ := h
  have hn : s ∉ TL.tl (numS p.1) := by
    obtain ⟨k, hk⟩ := Int.eq_ofNat_of_zero_le a0
    rw [hk, numS, TL.tl_num]
    exact TL.numL_free hs
  have e := TL.partition_app ey (a := numS p.1) (b := numS p.2) hn
  refine readW_pos ?_ ?_ ?_
  · show (Txt.partition (showP m p) m).2.1 ≠ ""
    rw [showP, e]
    intro z
    have := congrArg (fun x : Str => TL.tl x) z
    simp only at this
    rw [ey] at this
    cases this
  · rw [showP, e]; exact readI_num a0 a1
  · rw [showP, e]; exact readI_num b0 b1
theorem readWs_show {m : Str} {s : Nat} {S : List Nat} (ey : TL.tl m = s :: S) (hs : s < 48 ∨ 57 < s) : ∀ {ps : List (Int × Int)}, (∀ p ∈ ps, 0 ≤ p.1 ∧ p.1 < 10 ^ 30 ∧ 0 ≤ p.2 ∧ p.2 < 10 ^ 30) → readWs m (ps.map (showP m)) = some ps
  | [], _ => rfl
  | p :: ps, h => by
    rw [List.map_cons]
    unfold readWs
    rw [readW_show ey hs (h p List.mem_cons_self), readWs_show ey hs fun q hq => h q (List.mem_cons_of_mem _ hq)]
theorem space_free {m : Str} {s : Nat} (ey : TL.tl m = [s]) (hs : s = 46 ∨ s = 58) {p : Int × Int} (h : 0 ≤ p.1 ∧ 0 ≤ p.2) : 32 ∉ TL.tl (showP m p) := by
  obtain ⟨a, ha⟩ := Int.eq_ofNat_of_zero_le h.1
  obtain ⟨b, hb⟩ := Int.eq_ofNat_of_zero_le h.2
  unfold showP numS
  rw [TL.tl_append, TL.tl_append, ey, ha, hb, TL.tl_num, TL.tl_num]
  intro hm
  rcases List.mem_append.mp hm with hm | hm
  · rcases List.mem_append.mp hm with hm | hm
    · exact TL.numL_free (by decide) hm
    · rw [List.mem_singleton] at hm; omega
  · exact TL.numL_free (by decide) hm
theorem readP_show {m : Str} {s : Nat} (ey : TL.tl m = [s]) (hs : s = 46 ∨ s = 58) {ps : List (Int × Int)} (h : Small ps) : readP m (showPs m ps) = some ps := by
  unfold readP showPs
  by_cases hp : ps = []
  · subst hp; rfl
  rw [if_neg hp]
  have hsp : Txt.split (Txt.join " " (ps.map (showP m))) " " = ps.map (showP m) :=
    (TL.split_join (y := " ") (s := 32) (S := []) (by decide +kernel) (by decide +kernel) (fun e => hp (List.map_eq_nil_iff.mp e)) fun w hw => by
      obtain ⟨p, hpm, rfl⟩ := List.mem_map.mp hw
      obtain ⟨a, _, b, _⟩ := h.1 p hpm
      exact space_free ey hs ⟨a, b⟩)
  rw [if_neg, hsp]
  · exact readWs_show ey (by omega) h.1
  · intro e
    cases ps with
    | nil => exact hp rfl
    | cons p r =>
      have : showP m p ∈ Txt.split (Txt.join " " ((p :: r).map (showP m))) " " := by rw [hsp]; exact List.mem_cons_self
      have hl := split_word this
      rw [e, show ((("-" : Str)).length) = 1 from rfl] at hl
      have : (showP m p).length = (numS p.1).length + 1 + (numS p.2).length := by
        unfold showP
        rw [strlen_app, strlen_app, show m.length = 1 by rw [TL.len_tl, ey]; rfl]
      obtain ⟨a0, _, b0, _⟩ := h.1 p List.mem_cons_self
      obtain ⟨a, ha⟩ := Int.eq_ofNat_of_zero_le a0
      have : 0 < (numS p.1).length := by rw [ha, TL.len_tl, numS, TL.tl_num]; exact List.length_pos_iff.mpr (TL.numL_ne a)
      omega

def spIs : SpD := fun ds O Q _ => ∃ (f d : D) (ps : List (Int × Int)), ds = [f, d] ∧ RdL O f (prs ps) ∧ RdL O d (prs ps) ∧ ps.length < 1000000 ∧ Q (.bl true) O
theorem spIs.mk {f d : D} {ps : List (Int × Int)} {O : OH} {Q : D → OH → Prop} {E : Addr → OH → Prop} (h1 : RdL O f (prs ps)) (h2 : RdL O d (prs ps)) (hz : ps.length < 1000000) (q : Q (.bl true) O) : spIs [f, d] O Q E := ⟨f, d, ps, rfl, h1, h2, hz, q⟩
abbrev s_law_is : Stmt := top 25
theorem sc_law_is : FnScope ["found", "due", "k", "pair"] ["found", "due"] (defScope s_law_is) := ⟨rfl, rfl, rfl, by decide +kernel, rfl, by decide +kernel, by decide +kernel⟩
theorem st_law_is : ScopeOk ["found", "due", "k", "pair"] ["isinstance", "list", "len", "range", "tuple", "_law_whole"] (defScope s_law_is) := ⟨by decide +kernel, by decide +kernel⟩
theorem ok_law_is {M : Dis} {P : Program} {w : World} {K : PySem.W.Frag} {mg : Str → Option Value} {base : Heap} {f : Addr} {fd : FuncData} (F : Fun K "_law_is" "_law_is" s_law_is f fd) (bi : Bi mg) (Fw : FnD M P w K mg base "_law_whole" 1 (spIsInt K)) :
    FnOk P w K mg base (M.cx P w) 2 f fd ["found", "due"] (lift K spIs) := by
  refine fn_okC (k := 1) F sc_law_is st_law_is (fun ds O Q E h => by obtain ⟨f, d, ps, rfl, _⟩ := h; rfl) fun X B W eP ew eK em eb c hsc hst hfr hpo hpa hr tk ds O Q h => ?_
  subst eP ew eK em eb
  obtain ⟨f, d, ps, rfl, hf, hd, hz, hq⟩ := h
  have tyf := rdl_ty (K := X.K) hf
  refine ds_cons (δ := [some _, some _, none, none]) ?_
  walk_at "G"
  refine ds_for hpo c.calm (di_range1 bi.range (by walk_at "D.gl") ?_)
  walk_at "G"
  refine ⟨⟨by omega, by rw [prs_len]; omega⟩, fun i δ' O' => O' = O ∧ ∃ e1 e2, δ' = [some f, some d, e1, e2], ⟨rfl, _, _, rfl⟩, fun _ _ _ _ => True.intro, ?_, ?_⟩
  · rintro i y δ' O' hi ⟨rfl, e1, e2, rfl⟩
    obtain ⟨rfl, hi2⟩ := upto_get hi
    have hi3 : i < ps.length := by rw [prs_len] at hi2; omega
    obtain ⟨⟨a, b⟩, hx, hxx, hat⟩ := map_atI (f := dPair) (l := ps) (i := 0 + (i : Int)) (by omega) (by omega)
    have hat' : atI (prs ps) (0 + (i : Int)) = some (.tup [.int a, .int b]) := hat
    walk_at "G"
    refine cm_neP (p := (a, b)) (r := (a, b)) hr ?_
    walk_at "G"
    exact ⟨rfl, _, _, rfl⟩
  · rintro δ' O' ⟨rfl, e1, e2, rfl⟩
    walk_at "G"
local macro_rules | `(tactic| walk_at "X.v") => `(tactic| ((with_reducible refine' spIs.mk ?h1 ?h2 ?hz ?q); (case h1 => walk_at "D.rdp"); (case h2 => walk_at "D.rdp"); (case hz => walk_at "D.ari")))
theorem tree_small {ps : List (Int × Int)} {lo : Int} (h : TreeOk ps) (hl : ∀ p ∈ ps, p.2 ≤ lo) (h2 : lo < 10 ^ 30) (hz : ps.length < 1000) : Small ps := ⟨fun p hp => by
  obtain ⟨i, hi⟩ := List.mem_iff_getElem?.mp hp
  obtain ⟨a, b, c⟩ := h i p hi
  have := hl p hp
  have hil := (List.getElem?_eq_some_iff.mp hi).1
  refine ⟨a, ?_, by omega, by omega⟩
  have : p.1 < 1000 := by omega
  omega, hz⟩
theorem prs_set {ps : List (Int × Int)} {i : Nat} {a b : Int} : prs (ps.set i (a, b)) = (prs ps).set i (.tup [.int a, .int b]) := List.map_set
theorem tree_set {ps : List (Int × Int)} {i : Nat} {a b : Int} (h : TreeOk ps) (hi : i < ps.length) (h0 : 0 ≤ a) (h1 : a ≤ i) (h2 : 1 ≤ b) : TreeOk (ps.set i (a, b)) := fun j p hp => by
  by_cases hj : i = j
  · subst hj
    rw [List.getElem?_set_self hi] at hp
    cases hp
    exact ⟨h0, h1, h2⟩
  · rw [List.getElem?_set_ne hj] at hp
    exact h j p hp
theorem small_set {ps : List (Int × Int)} {i : Nat} {p : Int × Int} (h : Small ps) (hp : 0 ≤ p.1 ∧ p.1 < 10 ^ 30 ∧ 0 ≤ p.2 ∧ p.2 < 10 ^ 30) : Small (ps.set i p) := ⟨fun q hq => by
  rcases List.mem_or_eq_of_mem_set hq with hq | hq
  · exact h.1 q hq
  · rw [hq]; exact hp, by rw [List.length_set]; exact h.2⟩
theorem small_snoc {ps : List (Int × Int)} {p : Int × Int} (h : Small ps) (hp : 0 ≤ p.1 ∧ p.1 < 10 ^ 30 ∧ 0 ≤ p.2 ∧ p.2 < 10 ^ 30) (hz : ps.length + 1 < 1000) : Small (ps ++ [p]) := ⟨fun q hq => by
  rcases List.mem_append.mp hq with hq | hq
  · exact h.1 q hq
  · rw [List.mem_singleton.mp hq]; exact hp, by simpa using hz⟩
theorem prs_app {ps qs : List (Int × Int)} : prs (ps ++ qs) = prs ps ++ prs qs := List.map_append
theorem small_app {ps qs : List (Int × Int)} (h : Small ps) (hq : Small qs) (hz : ps.length + qs.length < 1000) : Small (ps ++ qs) := ⟨fun p hp => by
  rcases List.mem_append.mp hp with hp | hp
  · exact h.1 p hp
  · exact hq.1 p hp, by simpa using hz⟩
def spParts : SpD := fun ds O Q _ => ∃ (a : Addr) (wv : Int), ds = [.ptr a] ∧ O a = some (.lst [.int wv]) ∧
  ∀ ps qs w' l1 l2, TreeOk ps → Small ps → Small qs → O l1 = none → O l2 = none → l1 ≠ l2 → l1 ≠ a → l2 ≠ a → Q (.tup [.ptr l1, .ptr l2]) (updO (updO (updO O a (.lst [.int w'])) l1 (.lst (prs ps))) l2 (.lst (prs qs)))
abbrev s_law_parts : Stmt := top 26
theorem sc_law_parts : FnScope ["digits", "roads", "place", "points", "turn", "one", "k"] ["digits"] (defScope s_law_parts) := ⟨rfl, rfl, rfl, by decide +kernel, rfl, by decide +kernel, by decide +kernel⟩
theorem st_law_parts : ScopeOk ["digits", "roads", "place", "points", "turn", "one"] ["_law_roads", "_law_take", "len", "range", "_law_number"] (defScope s_law_parts) := ⟨by decide +kernel, by decide +kernel⟩
theorem ok_law_parts {M : Dis} {P : Program} {w : World} {K : PySem.W.Frag} {mg : Str → Option Value} {base : Heap} {f : Addr} {fd : FuncData} (F : Fun K "_law_parts" "_law_parts" s_law_parts f fd) (bi : Bi mg) (Ft : FnD M P w K mg base "_law_take" 1 spTake) (Fr : FnD M P w K mg base "_law_roads" 2 spLRoads) (Fn : FnD M P w K mg base "_law_number" 2 spNumber) :
    FnOk P w K mg base (M.cx P w) 3 f fd ["digits"] (lift K spParts) := by
  refine fn_okC (k := 2) F sc_law_parts st_law_parts (fun ds O Q E h => by obtain ⟨a, wv, rfl, _⟩ := h; rfl) fun X B W eP ew eK em eb c hsc hst hfr hpo hpa hr tk ds O Q h => ?_
  subst eP ew eK em eb
  obtain ⟨a, wv, rfl, ha, hq⟩ := h
  refine ds_cons (δ := [some _, none, none, none, none, none, none]) ?_
  walk_at "N"
  rename_i ps w1 l hok hle hpl hl
  have hla : l ≠ a := fun e => by subst e; rw [ha] at hl; cases hl
  have hsm : Small ps := tree_small hok hle (by omega) (by omega)
  refine ds_cut (fun δ' O' => ∃ ps w' e, δ' = [some (.ptr a), some (.ptr l), e, none, none, none, none] ∧ O' a = some (.lst [.int w']) ∧ O' l = some (.lst (prs ps)) ∧ SubO (delO O a) O' ∧ TreeOk ps ∧ Small ps) ?_ ?_
  · walk_at "G"
    rename_i n1 hn1
    refine brNS (fun h1 => ?_) (fun h1 => ?_)
    · have hpos : 0 < ps.length := List.length_pos_iff.mpr h1
      walk_at "G"
      rename_i c1 w2 c10 c11
      refine brS (fun h2 => ?_) (fun h2 => ?_)
      · walk_at "G"
        rename_i p w3 p0 p1
        rw [prs_len] at p1
        obtain ⟨⟨b, c⟩, hx, hxx, hat⟩ := map_atI (f := dPair) (l := ps) (i := p) p0 p1
        have hat' : atI (prs ps) p = some (.tup [.int b, .int c]) := hat
        refine ix_lstD (.cell (by walk_at "D.lk")) hat' ?_
        walk_at "G"
        rename_i g w4 g0 g1
        have hj : ixN (prs ps).length p = some p.toNat := by unfold L2.ixN; rw [prs_len, if_pos p0, if_pos p1]
        refine set_lstD (by walk_at "D.lk") hj ?_
        walk_at "G"
        obtain ⟨k1, k2, k3⟩ := hok _ _ hxx
        obtain ⟨m1, m2, m3, m4⟩ := hsm.1 _ hx
        simp only at k1 k2 k3 m1 m2
        refine ⟨ps.set p.toNat (b, 1 + g), w4, _, rfl, by walk_at "D.lk", by rw [prs_set]; walk_at "D.lk", by walk_at "D.sub", tree_set hok (by omega) k1 k2 (by omega), small_set hsm ⟨m1, m2, by show 0 ≤ 1 + g; omega, by show 1 + g < 10 ^ 30; omega⟩⟩
      · walk_at "G"
        exact ⟨ps, w2, none, rfl, by walk_at "D.lk", by walk_at "D.lk", by walk_at "D.sub", hok, hsm⟩
    · walk_at "G"
      exact ⟨ps, w1, none, rfl, by walk_at "D.lk", by walk_at "D.lk", by walk_at "D.sub", hok, hsm⟩
  rintro δ' O' ⟨ps, w2, e1, rfl, h1, h2, h3, hok, hsm⟩
  walk_at "N"
  rename_i l2 hl2
  refine ds_for hpo c.calm (di_range1 bi.range (by walk_at "D.gl") ?_)
  walk_at "G"
  rename_i r w3 r0 r1
  have hll : l2 ≠ l := fun e => by subst e; rw [h2] at hl2; cases hl2
  have hl2a : l2 ≠ a := fun e => by subst e; rw [h1] at hl2; cases hl2
  have hO2 : O l2 = none := by
    cases hh : O l2 with
    | none => rfl
    | some d => rw [h3 l2 d (by unfold delO; rw [if_neg hl2a]; exact hh)] at hl2; cases hl2
  refine ⟨by omega, fun i δ' O'' => ∃ qs w' e1 e2 e3, δ' = [some (.ptr a), some (.ptr l), e1, some (.ptr l2), e2, e3, none] ∧ O'' a = some (.lst [.int w']) ∧ O'' l = some (.lst (prs ps)) ∧ O'' l2 = some (.lst (prs qs)) ∧ SubO (delO O a) O'' ∧ Small qs ∧ qs.length = i,
    ⟨[], w3, _, _, _, rfl, by walk_at "D.lk", by walk_at "D.lk", by show _ = some (Cell.lst []); walk_at "D.lk", by walk_at "D.sub", ⟨(fun p h => nomatch h), by decide⟩, rfl⟩, fun _ _ _ _ => True.intro, ?_, ?_⟩
  · rintro i y δ' O'' hi ⟨qs, w4, d1, d2, d3, rfl, g1, g2, g3, g4, g5, g6⟩
    obtain ⟨rfl, hi2⟩ := upto_get hi
    have hz : (prs qs).length < PySem.sizeLine := by rw [prs_len, g6, PySem.sizeLine_eq]; omega
    walk_at "G"
    rename_i b w5 b0 b1 c' w6 c0 c1
    exact ⟨qs ++ [(b, c')], w6, _, _, _, rfl, by walk_at "D.lk", by walk_at "D.lk", by rw [prs_snoc]; walk_at "D.lk", by walk_at "D.sub", small_snoc g5 ⟨b0, b1, c0, c1⟩ (by omega), by simp [g6]⟩
  rintro δ' O'' ⟨qs, w4, d1, d2, d3, rfl, g1, g2, g3, g4, g5, g6⟩
  rw [upto_len] at g6
  walk_at "N"
  refine ds_cut (fun δ' O' => ∃ qs w' e, δ' = [some (.ptr a), some (.ptr l), d1, some (.ptr l2), d2, d3, e] ∧ O' a = some (.lst [.int w']) ∧ O' l = some (.lst (prs ps)) ∧ O' l2 = some (.lst (prs qs)) ∧ SubO (delO O a) O' ∧ Small qs) ?_ ?_
  · walk_at "G"
    rename_i t w5 t0 t1
    refine brS (fun h4 => ?_) (fun h4 => ?_)
    · walk_at "G"
      refine c_lc (own := [("k", 6)]) (V' := ["k"]) (L' := ["k"]) (G' := []) c hsc (by decide +kernel) ⟨by decide +kernel, by decide +kernel, by decide +kernel⟩ fun hB => ?_
      refine di_range1 bi.range (by walk_at "D.gl") ?_
      walk_at "G"
      refine ⟨by decide, fun l3 hl3 => ?_⟩
      have h32 : l3 ≠ l2 := fun e => by subst e; rw [updO_ne hl2a, g3] at hl3; cases hl3
      have h31 : l3 ≠ l := fun e => by subst e; rw [updO_ne hla, g2] at hl3; cases hl3
      have h3a : l3 ≠ a := fun e => by subst e; rw [updO_same] at hl3; cases hl3
      have hO3 : O l3 = none := by
        cases hh : O l3 with
        | none => rfl
        | some d => rw [updO_ne h3a, g4 l3 d (by unfold delO; rw [if_neg h3a]; exact hh)] at hl3; cases hl3
      refine ⟨fun i acc O4 => acc = prs ((List.range i).map fun (k : Nat) => ((k : Int), 27 - (k : Int))) ∧ O4 l3 = some (.lst acc) ∧ O4 a = some (.lst [.int w5]) ∧ O4 l = some (.lst (prs ps)) ∧ O4 l2 = some (.lst (prs qs)) ∧ SubO (delO O a) O4,
        ⟨rfl, by walk_at "D.lk", by walk_at "D.lk", by walk_at "D.lk", by walk_at "D.lk", subO_new (delO_none hO3) (by walk_at "D.sub")⟩, fun _ _ _ _ => True.intro, ?_, ?_⟩
      · rintro i y acc O4 hi ⟨rfl, f1, f2, f3, f4, f5⟩
        obtain ⟨rfl, hi2⟩ := upto_get hi
        have hi3 : i < 28 := hi2
        have hz : (prs ((List.range i).map fun (k : Nat) => ((k : Int), 27 - (k : Int)))).length < PySem.sizeLine := by rw [prs_len, List.length_map, List.length_range, PySem.sizeLine_eq]; omega
        walk_at "G"
        have e0 : (0 : Int) + (i : Int) = i := Int.zero_add _
        have es : prs ((List.range (i + 1)).map fun (k : Nat) => ((k : Int), 27 - (k : Int))) = prs ((List.range i).map fun (k : Nat) => ((k : Int), 27 - (k : Int))) ++ [.tup [.int (0 + (i : Int)), .int (27 - (0 + (i : Int)))]] := by
          rw [List.range_succ, List.map_append, List.map_cons, List.map_nil, prs_snoc, e0]
        exact ⟨f1, hz, es.symm, by walk_at "D.lk", by walk_at "D.lk", by walk_at "D.lk", by walk_at "D.lk", subO_new (delO_none hO3) f5⟩
      · rintro acc O4 ⟨rfl, f1, f2, f3, f4, f5⟩
        have hz3 : (prs qs).length + (prs ((List.range (upto 0 (Int.toNat 28)).length).map fun (k : Nat) => ((k : Int), 27 - (k : Int)))).length ≤ PySem.sizeLine := by
          rw [prs_len, prs_len, List.length_map, List.length_range, upto_len, show Int.toNat 28 = 28 from rfl, PySem.sizeLine_eq, g6]; omega
        walk_at "G"
        refine ⟨qs ++ _, w5, _, rfl, by walk_at "D.lk", by walk_at "D.lk", by rw [prs_app]; walk_at "D.lk", by walk_at "D.sub", small_app g5 ⟨fun p hp => ?_, by simp [upto_len, show Int.toNat 28 = 28 from rfl]⟩ ?_⟩
        · obtain ⟨k, hk, rfl⟩ := List.mem_map.mp hp
          have hk2 : k < 28 := by rw [List.mem_range, upto_len] at hk; exact hk
          exact ⟨by show (0 : Int) ≤ k; omega, by show (k : Int) < 10 ^ 30; omega, by show (0 : Int) ≤ 27 - k; omega, by show 27 - (k : Int) < 10 ^ 30; omega⟩
        · rw [List.length_map, List.length_range, upto_len, show Int.toNat 28 = 28 from rfl, g6]; omega
    · walk_at "G"
      exact ⟨qs, w5, none, rfl, by walk_at "D.lk", by walk_at "D.lk", by walk_at "D.lk", by walk_at "D.sub", g5⟩
  rintro δ' O3 ⟨qs, w5, e4, rfl, g1, g2, g3, g4, g5⟩
  walk_at "G"
  exact ⟨_, subO_put g3 (subO_put g2 (subO_del g1 g4)), hq ps qs w5 l l2 hok hsm g5 hl hO2 (Ne.symm hll) hla hl2a⟩
theorem spParts.mk {a : Addr} {wv : Int} {O : OH} {Q : D → OH → Prop} {E : Addr → OH → Prop} (h : O a = some (.lst [.int wv]))
    (q : ∀ ps qs w' l1 l2, TreeOk ps → Small ps → Small qs → O l1 = none → O l2 = none → l1 ≠ l2 → l1 ≠ a → l2 ≠ a → Q (.tup [.ptr l1, .ptr l2]) (updO (updO (updO O a (.lst [.int w'])) l1 (.lst (prs ps))) l2 (.lst (prs qs)))) : spParts [.ptr a] O Q E := ⟨a, wv, rfl, h, q⟩
local macro_rules | `(tactic| walk_at "X.v") => `(tactic| ((with_reducible refine' spParts.mk ?h ?q); (case h => walk_at "D.lk"); intro _ _ _ _ _ _ _ _ _ _ _ _ _))
theorem spLText.mk {v : D} {ps : List (Int × Int)} {m : Str} {O : OH} {Q : D → OH → Prop} {E : Addr → OH → Prop} (h : RdL O v (prs ps)) (hs : Short ps) (hm : m.length = 1) (hok : PyData.strOk m = true) (q : Q (.str (showPs m ps)) O) : spLText [v, .str m] O Q E := ⟨v, ps, m, rfl, h, hs, hm, hok, q⟩
local macro_rules | `(tactic| walk_at "X.v") => `(tactic| ((with_reducible refine' spLText.mk ?h ?hs ?hm ?hok ?q); (case h => walk_at "D.rdp"); (case hs => with_reducible assumption); (case hm => decide); (case hok => decide +kernel)))
theorem joinL_len (S : List Nat) : ∀ ps : List (List Nat), (TL.joinL S ps).length ≤ (ps.map (·.length)).sum + ps.length * S.length
  | [] => by simp [TL.joinL]
  | [p] => by simp [TL.joinL]
  | p :: q :: r => by
    have ih := joinL_len S (q :: r)
    have e : TL.joinL S (p :: q :: r) = p ++ (S ++ TL.joinL S (q :: r)) := by first | rfl | simp [TL.joinL]
    rw [e, List.length_append, List.length_append, List.map_cons, List.sum_cons, List.length_cons (a := p), Nat.succ_mul]
    omega
theorem showPs_len {m : Str} {ps : List (Int × Int)} (hm : m.length = 1) (h : Small ps) : (showPs m ps).length ≤ 900000 := by
  unfold showPs
  split
  · decide
  · rw [TL.join_eq, TL.len_tl, TL.tl_join]
    refine Nat.le_trans (joinL_len _ _) ?_
    rw [List.map_map, List.map_map, List.length_map, List.length_map]
    have h1 := sum_le (f := fun p : Int × Int => (TL.tl (showP m p)).length) (n := 81) (l := ps) fun p hp => by
      rw [← TL.len_tl]; exact showP_len hm (h.short.1 p hp)
    have h2 := h.2
    have h3 : ps.length * 81 ≤ 1000 * 81 := Nat.mul_le_mul_right _ (Nat.le_of_lt h2)
    rw [show (TL.tl (Str.ofString " ")).length = 1 by decide +kernel]
    have e : (ps.map (((fun x : List Nat => x.length) ∘ TL.tl) ∘ showP m)).sum = (ps.map fun p => (TL.tl (showP m p)).length).sum := rfl
    omega
theorem spReadTree.show {CE CT : Addr} {K : PySem.W.Frag} {ps : List (Int × Int)} {O : OH} {Q : D → OH → Prop} {E : Addr → OH → Prop} (hok : TreeOk ps) (h : Small ps) (q : Q (.obj CT (treeF ps)) O) : spReadTree CE CT K [.str (showPs ":" ps)] O Q E :=
  have e := readP_show (m := ":") (s := 58) (by decide +kernel) (.inr rfl) h
  ⟨_, rfl, .inl ⟨_, rfl, showPs_len rfl h, fun qs hq => by rw [e] at hq; cases hq; exact ⟨hok, q⟩, fun hq => by rw [e] at hq; cases hq⟩⟩
theorem spReadPoints.show {CE : Addr} {K : PySem.W.Frag} {ps : List (Int × Int)} {O : OH} {Q : D → OH → Prop} {E : Addr → OH → Prop} (h : Small ps) (q : ∀ l, O l = none → Q (.ptr l) (updO O l (.lst (prs ps)))) : spReadPoints CE K [.str (showPs "." ps)] O Q E :=
  have e := readP_show (m := ".") (s := 46) (by decide +kernel) (.inl rfl) h
  ⟨_, rfl, .inl ⟨_, rfl, showPs_len rfl h, fun qs hq => by rw [e] at hq; cases hq; exact q, fun hq => by rw [e] at hq; cases hq⟩⟩
local macro_rules | `(tactic| walk_at "X.v") => `(tactic| ((with_reducible refine' spReadTree.show ?h1 ?h2 ?q); (case h1 => with_reducible assumption); (case h2 => with_reducible assumption)))
local macro_rules | `(tactic| walk_at "X.v") => `(tactic| ((with_reducible refine' spReadPoints.show ?h2 ?q); (case h2 => with_reducible assumption); intro _ _))
theorem spRoads.mk {CT : Addr} {ps : List (Int × Int)} {O : OH} {Q : D → OH → Prop} {E : Addr → OH → Prop} (hz : Small ps) (q : ∀ l, O l = none → Q (.ptr l) (updO O l (.lst (prs ps)))) : spRoads CT [.obj CT (treeF ps)] O Q E := ⟨ps, rfl, by have := hz.2; omega, q⟩
local macro_rules | `(tactic| walk_at "X.v") => `(tactic| ((with_reducible refine' spRoads.mk ?h1 ?q); (case h1 => with_reducible assumption); intro _ _))
theorem spShowTree.mk {CT : Addr} {ps : List (Int × Int)} {O : OH} {Q : D → OH → Prop} {E : Addr → OH → Prop} (h : Short ps) (q : Q (.str (showPs ":" ps)) O) : spShowTree CT [.obj CT (treeF ps)] O Q E := ⟨ps, rfl, h, q⟩
local macro_rules | `(tactic| walk_at "X.v") => `(tactic| ((with_reducible refine' spShowTree.mk ?h1 ?q); (case h1 => with_reducible assumption)))
theorem spShowPts.mk {v : D} {ps : List (Int × Int)} {O : OH} {Q : D → OH → Prop} {E : Addr → OH → Prop} (hv : RdL O v (prs ps)) (h : Short ps) (q : Q (.str (showPs "." ps)) O) : spShowPts [v] O Q E := ⟨v, ps, rfl, hv, h, q⟩
local macro_rules | `(tactic| walk_at "X.v") => `(tactic| ((with_reducible refine' spShowPts.mk ?h0 ?h1 ?q); (case h0 => walk_at "D.rdp"); (case h1 => with_reducible assumption)))
def spRead : SpD := fun ds O Q _ => ∃ (r p : D) (ps qs : List (Int × Int)), ds = [r, p] ∧ RdL O r (prs ps) ∧ RdL O p (prs qs) ∧ TreeOk ps ∧ Small ps ∧ Small qs ∧ Q (.bl true) O
abbrev s_law_read : Stmt := top 27
theorem sc_law_read : FnScope ["roads", "points", "tree", "found", "row", "pairs"] ["roads", "points"] (defScope s_law_read) := ⟨rfl, rfl, rfl, by decide +kernel, rfl, by decide +kernel, by decide +kernel⟩
theorem st_law_read : ScopeOk ["roads", "points", "tree", "found", "row", "pairs"] ["read_tree", "_law_text", "read_points", "isinstance", "Tree", "_law_is", "show_tree", "show_points"] (defScope s_law_read) := ⟨by decide +kernel, by decide +kernel⟩
theorem ok_law_read {M : Dis} {P : Program} {w : World} {K : PySem.W.Frag} {mg : Str → Option Value} {base : Heap} {f : Addr} {fd : FuncData} (F : Fun K "_law_read" "_law_read" s_law_read f fd) (bi : Bi mg) {CE CT : Addr} (T : TreeC K CT) (gT : mg "Tree" = some (.ref CT)) (Vr : PrD M P w K mg base CT "roads" 1 (spRoads CT)) (Frt : FnD M P w K mg base "read_tree" 5 (spReadTree CE CT K)) (Frp : FnD M P w K mg base "read_points" 3 (spReadPoints CE K)) (Ft : FnD M P w K mg base "_law_text" 1 spLText) (Fi : FnD M P w K mg base "_law_is" 2 spIs) (Fst : FnD M P w K mg base "show_tree" 3 (spShowTree CT)) (Fsp : FnD M P w K mg base "show_points" 1 spShowPts) :
    FnOk P w K mg base (M.cx P w) 6 f fd ["roads", "points"] (lift K spRead) := by
  refine fn_okC (k := 5) F sc_law_read st_law_read (fun ds O Q E h => by obtain ⟨r, p, ps, qs, rfl, _⟩ := h; rfl) fun X B W eP ew eK em eb c hsc hst hfr hpo hpa hr tk ds O Q h => ?_
  subst eP ew eK em eb
  obtain ⟨r, p, ps, qs, rfl, hr0, hp0, hok, hs1, hs2, hq⟩ := h
  have sh1 := hs1.short
  have sh2 := hs2.short
  have z1 := hs1.2
  have z2 := hs2.2
  have tcl := T.ic
  have tcc := T.ic.cl
  have kT : PySem.W.kitOne X.K (.ref CT) (.ref CT) = some true := by unfold PySem.W.kitOne; simp
  refine ds_cons (δ := [some _, some _, none, none, none, none]) ?_
  walk_at "G"
  rename_i lf hlf lt hlt lr hlr
  have nft : lf ≠ lt := fun e => by subst e; rw [updO_same] at hlt; cases hlt
  have nfr : lf ≠ lr := fun e => by subst e; rw [updO_ne nft, updO_same] at hlr; cases hlr
  have ntr : lt ≠ lr := fun e => by subst e; rw [updO_same] at hlr; cases hlr
  have gt := free_of hlt
  have gr := free_of (free_of hlr)
  refine ds_for hpo c.calm (di_list ?_)
  walk_at "G"
  rename_i lx hlx
  have nxf : lx ≠ lf := fun e => by subst e; rw [updO_ne nfr, updO_ne nft, updO_same] at hlx; cases hlx
  have nxr : lx ≠ lr := fun e => by subst e; rw [updO_same] at hlx; cases hlx
  have gx := free_of (free_of (free_of hlx))
  refine rdR (.cell updO_same) ⟨fun i δ' O' => ∃ e d1 d2, δ' = [some r, some p, some (.obj CT (treeF ps)), some (.ptr lf), some (.ptr lr), e] ∧ O' lx = some (.lst [.ptr lr, .ptr lf]) ∧ O' lr = some (.lst d1) ∧ d1.length ≤ 1000 + i ∧ O' lf = some (.lst d2) ∧ d2.length ≤ 1000 + i ∧ SubO O O',
    ⟨none, _, _, rfl, by walk_at "D.lk", by walk_at "D.lk", by rw [prs_len]; omega, by walk_at "D.lk", by rw [prs_len]; omega, by walk_at "D.sub"⟩, ?_, ?_, ?_⟩
  · rintro i δ' O' ⟨e, d1, d2, rfl, g1, _⟩
    exact .cell g1
  · rintro i y δ' O' hi ⟨e, d1, d2, rfl, g1, g2, g3, g4, g5, g6⟩
    have hi2 := (List.getElem?_eq_some_iff.mp hi).1
    have hi3 : i < 2 := hi2
    have y1 : d1.length < PySem.sizeLine := by rw [PySem.sizeLine_eq]; omega
    have y2 : d2.length < PySem.sizeLine := by rw [PySem.sizeLine_eq]; omega
    have hy : y = .ptr lr ∨ y = .ptr lf := by
      rcases i with _ | _ | i
      · cases hi; exact .inl rfl
      · cases hi; exact .inr rfl
      · omega
    rcases hy with rfl | rfl
    · walk_at "G"
      exact ⟨_, _, _, rfl, by walk_at "D.lk", by walk_at "D.lk", by simp; omega, by walk_at "D.lk", by omega, by walk_at "D.sub"⟩
    · walk_at "G"
      exact ⟨_, _, _, rfl, by walk_at "D.lk", by walk_at "D.lk", by omega, by walk_at "D.lk", by simp; omega, by walk_at "D.sub"⟩
  · rintro δ' O' ⟨e, d1, d2, rfl, g1, g2, g3, g4, g5, g6⟩
    walk_at "G"
theorem spRead.mk {r p : D} {ps qs : List (Int × Int)} {O : OH} {Q : D → OH → Prop} {E : Addr → OH → Prop} (h1 : RdL O r (prs ps)) (h2 : RdL O p (prs qs)) (h3 : TreeOk ps) (h4 : Small ps) (h5 : Small qs) (q : Q (.bl true) O) : spRead [r, p] O Q E := ⟨r, p, ps, qs, rfl, h1, h2, h3, h4, h5, q⟩
local macro_rules | `(tactic| walk_at "X.v") => `(tactic| ((with_reducible refine' spRead.mk ?h1 ?h2 ?h3 ?h4 ?h5 ?q); (case h1 => walk_at "D.rdp"); (case h2 => walk_at "D.rdp"); (case h3 => with_reducible assumption); (case h4 => with_reducible assumption); (case h5 => with_reducible assumption)))
theorem small_nil : Small [] := ⟨(fun p h => nomatch h), by decide⟩
theorem spReadPoints.dash {CE : Addr} {K : PySem.W.Frag} {O : OH} {Q : D → OH → Prop} {E : Addr → OH → Prop} (q : ∀ l, O l = none → Q (.ptr l) (updO O l (.lst (prs [])))) : spReadPoints CE K [.str "-"] O Q E := spReadPoints.show (ps := []) small_nil q
theorem spReadTree.dash {CE CT : Addr} {K : PySem.W.Frag} {O : OH} {Q : D → OH → Prop} {E : Addr → OH → Prop} (q : Q (.obj CT (treeF [])) O) : spReadTree CE CT K [.str "-"] O Q E := spReadTree.show (ps := []) tree_nil small_nil q
local macro_rules | `(tactic| walk_at "X.v") => `(tactic| ((with_reducible refine' spReadPoints.dash ?q); intro _ _))
local macro_rules | `(tactic| walk_at "X.v") => `(tactic| (with_reducible refine' spReadTree.dash ?q))
def spCase : SpD := fun ds O Q _ => ∃ (a : Addr) (wv : Int), ds = [.ptr a] ∧ O a = some (.lst [.int wv]) ∧ ∀ w', Q (.bl true) (updO O a (.lst [.int w']))
abbrev s_law_case : Stmt := top 28
theorem sc_law_case : FnScope ["digits", "roads", "points", "others", "second", "turn"] ["digits"] (defScope s_law_case) := ⟨rfl, rfl, rfl, by decide +kernel, rfl, by decide +kernel, by decide +kernel⟩
theorem st_law_case : ScopeOk ["digits", "roads", "points", "others", "second", "turn"] ["_law_parts", "range", "_law_read", "_law_is", "read_points", "read_tree"] (defScope s_law_case) := ⟨by decide +kernel, by decide +kernel⟩
theorem ok_law_case {M : Dis} {P : Program} {w : World} {K : PySem.W.Frag} {mg : Str → Option Value} {base : Heap} {f : Addr} {fd : FuncData} (F : Fun K "_law_case" "_law_case" s_law_case f fd) (bi : Bi mg) {CE CT : Addr} (T : TreeC K CT) (Vr : PrD M P w K mg base CT "roads" 1 (spRoads CT)) (Frt : FnD M P w K mg base "read_tree" 5 (spReadTree CE CT K)) (Frp : FnD M P w K mg base "read_points" 3 (spReadPoints CE K)) (Fi : FnD M P w K mg base "_law_is" 2 spIs) (Fp : FnD M P w K mg base "_law_parts" 3 spParts) (Fr : FnD M P w K mg base "_law_read" 6 spRead) :
    FnOk P w K mg base (M.cx P w) 7 f fd ["digits"] (lift K spCase) := by
  refine fn_okC (k := 6) F sc_law_case st_law_case (fun ds O Q E h => by obtain ⟨a, wv, rfl, _⟩ := h; rfl) fun X B W eP ew eK em eb c hsc hst hfr hpo hpa hr tk ds O Q h => ?_
  subst eP ew eK em eb
  obtain ⟨a, wv, rfl, ha, hq⟩ := h
  have tcc := T.ic.cl
  have sn := small_nil
  refine ds_cons (δ := [some _, none, none, none, none, none]) ?_
  walk_at "G"
  rename_i ps qs w1 l1 l2 k1 k2 k3 n1 n2 d12 d1a d2a ps' qs' w2 l3 l4 k4 k5 k6 n3 n4 d34 d3a d4a
  refine ds_for hpo c.calm (di_range1 bi.range (by walk_at "D.gl") ?_)
  walk_at "G"
  have q13 : l1 ≠ l3 := ne_ofO2 n3 (by walk_at "D.lk")
  have q23 : l2 ≠ l3 := ne_ofO2 n3 (by walk_at "D.lk")
  have q14 : l1 ≠ l4 := ne_ofO2 n4 (by walk_at "D.lk")
  have q24 : l2 ≠ l4 := ne_ofO2 n4 (by walk_at "D.lk")
  have m3 : O l3 = none := free_of (free_of (free_of n3))
  have m4 : O l4 = none := free_of (free_of (free_of n4))
  refine ⟨by omega, fun i δ' O' => ∃ e, δ' = [some (.ptr a), some (.ptr l1), some (.ptr l2), some (.ptr l3), some (.ptr l4), e] ∧ O' a = some (.lst [.int w2]) ∧ O' l1 = some (.lst (prs ps)) ∧ O' l2 = some (.lst (prs qs)) ∧ O' l3 = some (.lst (prs ps')) ∧ O' l4 = some (.lst (prs qs')) ∧ SubO (delO O a) O',
    ⟨none, rfl, by walk_at "D.lk", by walk_at "D.lk", by walk_at "D.lk", by walk_at "D.lk", by walk_at "D.lk", ?_⟩, fun _ _ _ _ => True.intro, ?_, ?_⟩
  · exact subO_new (delO_none m4) (subO_new (delO_none m3) (subO_dupd (subO_new (delO_none n2) (subO_new (delO_none n1) (subO_dupd delO_sub)))))
  · rintro i y δ' O' hi ⟨e, rfl, g0, g1, g2, g3, g4, g5⟩
    walk_at "G"
    exact ⟨g0, g1, g2, g3, g4, g5⟩
  · rintro δ' O' ⟨e, rfl, g0, g1, g2, g3, g4, g5⟩
    have hw := hq w2
    have hsub := subO_del g0 g5
    walk_at "G"
theorem spCase.mk {a : Addr} {wv : Int} {O : OH} {Q : D → OH → Prop} {E : Addr → OH → Prop} (h : O a = some (.lst [.int wv])) (q : ∀ w', Q (.bl true) (updO O a (.lst [.int w']))) : spCase [.ptr a] O Q E := ⟨a, wv, rfl, h, q⟩
local macro_rules | `(tactic| walk_at "X.v") => `(tactic| ((with_reducible refine' spCase.mk ?h ?q); (case h => walk_at "D.lk"); intro _))
theorem spDigits.mk {ns : List Int} {i : Int} {O : OH} {Q : D → OH → Prop} {E : Addr → OH → Prop} (hb : ∀ n ∈ ns, Builtin.Int.intBits n ≤ 1048576) (h0 : 0 ≤ i) (h1 : i < 100) (q : ∀ w l, O l = none → Q (.ptr l) (updO O l (.lst [.int w]))) : spDigits [.lsk (ns.map D.int), .int i] O Q E := by
  obtain ⟨k, rfl⟩ := Int.eq_ofNat_of_zero_le h0
  exact ⟨ns, k, rfl, hb, by omega, q⟩
local macro_rules | `(tactic| walk_at "X.v") => `(tactic| ((with_reducible refine' spDigits.mk ?hb ?h0 ?h1 ?q); (case hb => with_reducible assumption); (case h0 => walk_at "D.ari"); (case h1 => walk_at "D.ari"); intro _ _ _))
def spLaw : SpD := fun ds O Q _ => ∃ (ns : List Int), ds = [.lsk (ns.map D.int)] ∧ (∀ n ∈ ns, Builtin.Int.intBits n ≤ 1048576) ∧ Q (.bl true) O
abbrev slaw : Stmt := top 29
theorem sclaw : FnScope ["script", "at"] ["script"] (defScope slaw) := ⟨rfl, rfl, rfl, by decide +kernel, rfl, by decide +kernel, by decide +kernel⟩
theorem stlaw : ScopeOk ["script", "at"] ["range", "max", "min", "len", "_law_case", "_law_digits"] (defScope slaw) := ⟨by decide +kernel, by decide +kernel⟩
theorem oklaw {M : Dis} {P : Program} {w : World} {K : PySem.W.Frag} {mg : Str → Option Value} {base : Heap} {f : Addr} {fd : FuncData} (F : Fun K "law" "law" slaw f fd) (bi : Bi mg) (Fc : FnD M P w K mg base "_law_case" 7 spCase) (Fd : FnD M P w K mg base "_law_digits" 1 spDigits) :
    FnOk P w K mg base (M.cx P w) 8 f fd ["script"] (lift K spLaw) := by
  refine fn_okC (k := 7) F sclaw stlaw (fun ds O Q E h => by obtain ⟨ns, rfl, _⟩ := h; rfl) fun X B W eP ew eK em eb c hsc hst hfr hpo hpa hr tk ds O Q h => ?_
  subst eP ew eK em eb
  obtain ⟨ns, rfl, hb, hq⟩ := h
  refine ds_cons (δ := [some _, none]) ?_
  refine ds_for hpo c.calm (di_range1 bi.range (by walk_at "D.gl") ?_)
  walk_at "G"
  obtain ⟨N, hN⟩ : ∃ N : Int, N = (if (if (8 : Int) < ((ns.map D.int).length : Nat) then 8 else (((ns.map D.int).length : Nat) : Int)) > 1 then (if (8 : Int) < ((ns.map D.int).length : Nat) then 8 else (((ns.map D.int).length : Nat) : Int)) else 1) := ⟨_, rfl⟩
  rw [← hN]
  have hN8 : 1 ≤ N ∧ N ≤ 8 := by rw [hN]; split <;> split <;> omega
  refine ⟨by omega, fun i δ' O' => ∃ e, δ' = [some (.lsk (ns.map D.int)), e] ∧ SubO O O', ⟨none, rfl, SubO.refl⟩, fun _ _ _ _ => True.intro, ?_, ?_⟩
  · rintro i y δ' O' hi ⟨e, rfl, hs⟩
    obtain ⟨rfl, hi2⟩ := upto_get hi
    have hi4 : (i : Int) < 8 := by omega
    walk_at "G"
    walk_at "D.sub"
  · rintro δ' O' ⟨e, rfl, hs⟩
    walk_at "G"

open PySem.Spec PyProof.Rows
theorem all_mk {l : PySem.W.OpenLaw} {w : World} {K : PySem.W.Frag} {h : Heap} {mg : Str → Option Value} {fa : Addr} (X : K.In h) (G : h.Ns mainGlobals mg) (hfa : mg "law" = some (.ref fa))
    {CTree : Addr}
    {CInvalidText : Addr}
    {tDIGITS : Tok}
    {tMOST_DIGITS : Tok}
    {fis_integer : Addr}
    {odis_integer : Option Addr}
    {anis_integer : Option Addr}
    {slis_integer : Array (Option Value)}
    {ocis_integer : Value}
    {kVis_integer : Value}
    {dcis_integer : Value}
    {pmis_integer : Value}
    {cdis_integer : Value}
    {ctis_integer : Value}
    {fis_pair : Addr}
    {odis_pair : Option Addr}
    {anis_pair : Option Addr}
    {slis_pair : Array (Option Value)}
    {ocis_pair : Value}
    {kVis_pair : Value}
    {dcis_pair : Value}
    {pmis_pair : Value}
    {cdis_pair : Value}
    {ctis_pair : Value}
    {fTree_init : Addr}
    {odTree_init : Option Addr}
    {anTree_init : Option Addr}
    {slTree_init : Array (Option Value)}
    {ocTree_init : Value}
    {kVTree_init : Value}
    {dcTree_init : Value}
    {pmTree_init : Value}
    {cdTree_init : Value}
    {ctTree_init : Value}
    {pTree_roads : Addr}
    {rTree_roads : List Value}
    {fTree_roads : Addr}
    {odTree_roads : Option Addr}
    {anTree_roads : Option Addr}
    {slTree_roads : Array (Option Value)}
    {ocTree_roads : Value}
    {kVTree_roads : Value}
    {dcTree_roads : Value}
    {pmTree_roads : Value}
    {cdTree_roads : Value}
    {ctTree_roads : Value}
    {fshow_tree : Addr}
    {odshow_tree : Option Addr}
    {anshow_tree : Option Addr}
    {slshow_tree : Array (Option Value)}
    {ocshow_tree : Value}
    {kVshow_tree : Value}
    {dcshow_tree : Value}
    {pmshow_tree : Value}
    {cdshow_tree : Value}
    {ctshow_tree : Value}
    {fshow_points : Addr}
    {odshow_points : Option Addr}
    {anshow_points : Option Addr}
    {slshow_points : Array (Option Value)}
    {ocshow_points : Value}
    {kVshow_points : Value}
    {dcshow_points : Value}
    {pmshow_points : Value}
    {cdshow_points : Value}
    {ctshow_points : Value}
    {fread_integer : Addr}
    {odread_integer : Option Addr}
    {anread_integer : Option Addr}
    {slread_integer : Array (Option Value)}
    {ocread_integer : Value}
    {kVread_integer : Value}
    {dcread_integer : Value}
    {pmread_integer : Value}
    {cdread_integer : Value}
    {ctread_integer : Value}
    {fread_pairs : Addr}
    {odread_pairs : Option Addr}
    {anread_pairs : Option Addr}
    {slread_pairs : Array (Option Value)}
    {ocread_pairs : Value}
    {kVread_pairs : Value}
    {dcread_pairs : Value}
    {pmread_pairs : Value}
    {cdread_pairs : Value}
    {ctread_pairs : Value}
    {fread_points : Addr}
    {odread_points : Option Addr}
    {anread_points : Option Addr}
    {slread_points : Array (Option Value)}
    {ocread_points : Value}
    {kVread_points : Value}
    {dcread_points : Value}
    {pmread_points : Value}
    {cdread_points : Value}
    {ctread_points : Value}
    {fread_tree : Addr}
    {odread_tree : Option Addr}
    {anread_tree : Option Addr}
    {slread_tree : Array (Option Value)}
    {ocread_tree : Value}
    {kVread_tree : Value}
    {dcread_tree : Value}
    {pmread_tree : Value}
    {cdread_tree : Value}
    {ctread_tree : Value}
    {f_law_digits : Addr}
    {od_law_digits : Option Addr}
    {an_law_digits : Option Addr}
    {sl_law_digits : Array (Option Value)}
    {oc_law_digits : Value}
    {kV_law_digits : Value}
    {dc_law_digits : Value}
    {pm_law_digits : Value}
    {cd_law_digits : Value}
    {ct_law_digits : Value}
    {f_law_take : Addr}
    {od_law_take : Option Addr}
    {an_law_take : Option Addr}
    {sl_law_take : Array (Option Value)}
    {oc_law_take : Value}
    {kV_law_take : Value}
    {dc_law_take : Value}
    {pm_law_take : Value}
    {cd_law_take : Value}
    {ct_law_take : Value}
    {f_law_whole : Addr}
    {od_law_whole : Option Addr}
    {an_law_whole : Option Addr}
    {sl_law_whole : Array (Option Value)}
    {oc_law_whole : Value}
    {kV_law_whole : Value}
    {dc_law_whole : Value}
    {pm_law_whole : Value}
    {cd_law_whole : Value}
    {ct_law_whole : Value}
    {f_law_roads : Addr}
    {od_law_roads : Option Addr}
    {an_law_roads : Option Addr}
    {sl_law_roads : Array (Option Value)}
    {oc_law_roads : Value}
    {kV_law_roads : Value}
    {dc_law_roads : Value}
    {pm_law_roads : Value}
    {cd_law_roads : Value}
    {ct_law_roads : Value}
    {f_law_number : Addr}
    {od_law_number : Option Addr}
    {an_law_number : Option Addr}
    {sl_law_number : Array (Option Value)}
    {oc_law_number : Value}
    {kV_law_number : Value}
    {dc_law_number : Value}
    {pm_law_number : Value}
    {cd_law_number : Value}
    {ct_law_number : Value}
    {f_law_text : Addr}
    {od_law_text : Option Addr}
    {an_law_text : Option Addr}
    {sl_law_text : Array (Option Value)}
    {oc_law_text : Value}
    {kV_law_text : Value}
    {dc_law_text : Value}
    {pm_law_text : Value}
    {cd_law_text : Value}
    {ct_law_text : Value}
    {f_law_is : Addr}
    {od_law_is : Option Addr}
    {an_law_is : Option Addr}
    {sl_law_is : Array (Option Value)}
    {oc_law_is : Value}
    {kV_law_is : Value}
    {dc_law_is : Value}
    {pm_law_is : Value}
    {cd_law_is : Value}
    {ct_law_is : Value}
    {f_law_parts : Addr}
    {od_law_parts : Option Addr}
    {an_law_parts : Option Addr}
    {sl_law_parts : Array (Option Value)}
    {oc_law_parts : Value}
    {kV_law_parts : Value}
    {dc_law_parts : Value}
    {pm_law_parts : Value}
    {cd_law_parts : Value}
    {ct_law_parts : Value}
    {f_law_read : Addr}
    {od_law_read : Option Addr}
    {an_law_read : Option Addr}
    {sl_law_read : Array (Option Value)}
    {oc_law_read : Value}
    {kV_law_read : Value}
    {dc_law_read : Value}
    {pm_law_read : Value}
    {cd_law_read : Value}
    {ct_law_read : Value}
    {f_law_case : Addr}
    {od_law_case : Option Addr}
    {an_law_case : Option Addr}
    {sl_law_case : Array (Option Value)}
    {oc_law_case : Value}
    {kV_law_case : Value}
    {dc_law_case : Value}
    {pm_law_case : Value}
    {cd_law_case : Value}
    {ct_law_case : Value}
    {flaw : Addr}
    {odlaw : Option Addr}
    {anlaw : Option Addr}
    {sllaw : Array (Option Value)}
    {oclaw : Value}
    {kVlaw : Value}
    {dclaw : Value}
    {pmlaw : Value}
    {cdlaw : Value}
    {ctlaw : Value}
    (aCTree : PySem.W.nsIn K mainGlobals "Tree" = some (some (.ref CTree)))
    (pgCTree : PySem.W.plainGet K CTree Str.empty = true)
    (hdCTree : PySem.W.hasDictIn K CTree = true)
    (poCTree : PySem.W.plainOver K CTree = true)
    (saCTree : PySem.W.findIn K (.ref CTree) "__setattr__" = some (some (.builtin "object.__setattr__")))
    (haCTree : PySem.W.findIn K (.ref CTree) "__class__" = some (some (.builtin "object.__class__")))
    (hnCTree : PySem.W.specialIn K (.builtin "object.__class__") "__get__" = some (some (.builtin "getset_descriptor.__get__")))
    (tkCTree : PySem.W.takesIn K (.builtin "object.__class__") = some true)
    (mrCTree : PySem.W.mroIn K CTree (.type "object") = some true)
    (mkCTree : PySem.W.makesIn K CTree = true)
    (kcCTree : PySem.W.keepIn K (.ref CTree) = true)
    (nCTreeparents : PySem.W.findIn K (.ref CTree) "parents" = some none)
    (nCTreelengths : PySem.W.findIn K (.ref CTree) "lengths" = some none)
    (nCTreeheights : PySem.W.findIn K (.ref CTree) "heights" = some none)
    (aCInvalidText : PySem.W.nsIn K mainGlobals "InvalidText" = some (some (.ref CInvalidText)))
    (exCInvalidText : PySem.W.excIn K CInvalidText [.type "ValueError", .type "Exception", .type "BaseException", .type "object"] "ValueError.__new__" = true)
    (kpCInvalidText : PySem.W.keepIn K (.ref CInvalidText) = true)
    (sbCInvalidText : PySem.W.subIn K (.ref CInvalidText) (.type "BaseException") = some true)
    (tyCInvalidText : PySem.W.typeIn K (.ref CInvalidText) = some (.type "type"))
    (aDIGITS : PySem.W.nsIn K mainGlobals "DIGITS" = some (some (.str "0123456789" tDIGITS)))
    (aMOST_DIGITS : PySem.W.nsIn K mainGlobals "MOST_DIGITS" = some (some (.int 30 tMOST_DIGITS)))
    (ais_integer : PySem.W.nsIn K mainGlobals "is_integer" = some (some (.ref fis_integer)))
    (lis_integer : K.lookup fis_integer = some ⟨ocis_integer, odis_integer, .func (PySem.W.fnOf "is_integer" "is_integer" (defArgs sis_integer) (defBody sis_integer) (defScope sis_integer) .none kVis_integer dcis_integer pmis_integer anis_integer cdis_integer ctis_integer), slis_integer⟩)
    (cis_integer : PySem.W.codeIn K cdis_integer "is_integer" = true)
    (kis_integer : PySem.W.keepIn K (.ref fis_integer) = true)
    (ais_pair : PySem.W.nsIn K mainGlobals "is_pair" = some (some (.ref fis_pair)))
    (lis_pair : K.lookup fis_pair = some ⟨ocis_pair, odis_pair, .func (PySem.W.fnOf "is_pair" "is_pair" (defArgs sis_pair) (defBody sis_pair) (defScope sis_pair) .none kVis_pair dcis_pair pmis_pair anis_pair cdis_pair ctis_pair), slis_pair⟩)
    (cis_pair : PySem.W.codeIn K cdis_pair "is_pair" = true)
    (kis_pair : PySem.W.keepIn K (.ref fis_pair) = true)
    (aTree_init : PySem.W.findIn K (.ref CTree) "__init__" = some (some (.ref fTree_init)))
    (lTree_init : K.lookup fTree_init = some ⟨ocTree_init, odTree_init, .func (PySem.W.fnOf "__init__" "Tree.__init__" (defArgs sTree_init) (defBody sTree_init) (defScope sTree_init) .none kVTree_init dcTree_init pmTree_init anTree_init cdTree_init ctTree_init), slTree_init⟩)
    (cTree_init : PySem.W.codeIn K cdTree_init "Tree.__init__" = true)
    (kTree_init : PySem.W.keepIn K (.ref fTree_init) = true)
    (iTree_init : PySem.W.isFn K (.ref fTree_init) = true)
    (aTree_roads : PySem.W.findIn K (.ref CTree) "roads" = some (some (.ref pTree_roads)))
    (gTree_roads : PySem.W.specialIn K (.ref pTree_roads) "__get__" = some (some (.builtin "property.__get__")))
    (tTree_roads : PySem.W.takesIn K (.ref pTree_roads) = some true)
    (rcTree_roads : PySem.W.recIn K pTree_roads "property" = some (.ref fTree_roads :: rTree_roads))
    (lTree_roads : K.lookup fTree_roads = some ⟨ocTree_roads, odTree_roads, .func (PySem.W.fnOf "roads" "Tree.roads" (defArgs sTree_roads) (defBody sTree_roads) (defScope sTree_roads) .none kVTree_roads dcTree_roads pmTree_roads anTree_roads cdTree_roads ctTree_roads), slTree_roads⟩)
    (cTree_roads : PySem.W.codeIn K cdTree_roads "Tree.roads" = true)
    (kTree_roads : PySem.W.keepIn K (.ref fTree_roads) = true)
    (ashow_tree : PySem.W.nsIn K mainGlobals "show_tree" = some (some (.ref fshow_tree)))
    (lshow_tree : K.lookup fshow_tree = some ⟨ocshow_tree, odshow_tree, .func (PySem.W.fnOf "show_tree" "show_tree" (defArgs sshow_tree) (defBody sshow_tree) (defScope sshow_tree) .none kVshow_tree dcshow_tree pmshow_tree anshow_tree cdshow_tree ctshow_tree), slshow_tree⟩)
    (cshow_tree : PySem.W.codeIn K cdshow_tree "show_tree" = true)
    (kshow_tree : PySem.W.keepIn K (.ref fshow_tree) = true)
    (ashow_points : PySem.W.nsIn K mainGlobals "show_points" = some (some (.ref fshow_points)))
    (lshow_points : K.lookup fshow_points = some ⟨ocshow_points, odshow_points, .func (PySem.W.fnOf "show_points" "show_points" (defArgs sshow_points) (defBody sshow_points) (defScope sshow_points) .none kVshow_points dcshow_points pmshow_points anshow_points cdshow_points ctshow_points), slshow_points⟩)
    (cshow_points : PySem.W.codeIn K cdshow_points "show_points" = true)
    (kshow_points : PySem.W.keepIn K (.ref fshow_points) = true)
    (aread_integer : PySem.W.nsIn K mainGlobals "read_integer" = some (some (.ref fread_integer)))
    (lread_integer : K.lookup fread_integer = some ⟨ocread_integer, odread_integer, .func (PySem.W.fnOf "read_integer" "read_integer" (defArgs sread_integer) (defBody sread_integer) (defScope sread_integer) .none kVread_integer dcread_integer pmread_integer anread_integer cdread_integer ctread_integer), slread_integer⟩)
    (cread_integer : PySem.W.codeIn K cdread_integer "read_integer" = true)
    (kread_integer : PySem.W.keepIn K (.ref fread_integer) = true)
    (aread_pairs : PySem.W.nsIn K mainGlobals "read_pairs" = some (some (.ref fread_pairs)))
    (lread_pairs : K.lookup fread_pairs = some ⟨ocread_pairs, odread_pairs, .func (PySem.W.fnOf "read_pairs" "read_pairs" (defArgs sread_pairs) (defBody sread_pairs) (defScope sread_pairs) .none kVread_pairs dcread_pairs pmread_pairs anread_pairs cdread_pairs ctread_pairs), slread_pairs⟩)
    (cread_pairs : PySem.W.codeIn K cdread_pairs "read_pairs" = true)
    (kread_pairs : PySem.W.keepIn K (.ref fread_pairs) = true)
    (aread_points : PySem.W.nsIn K mainGlobals "read_points" = some (some (.ref fread_points)))
    (lread_points : K.lookup fread_points = some ⟨ocread_points, odread_points, .func (PySem.W.fnOf "read_points" "read_points" (defArgs sread_points) (defBody sread_points) (defScope sread_points) .none kVread_points dcread_points pmread_points anread_points cdread_points ctread_points), slread_points⟩)
    (cread_points : PySem.W.codeIn K cdread_points "read_points" = true)
    (kread_points : PySem.W.keepIn K (.ref fread_points) = true)
    (aread_tree : PySem.W.nsIn K mainGlobals "read_tree" = some (some (.ref fread_tree)))
    (lread_tree : K.lookup fread_tree = some ⟨ocread_tree, odread_tree, .func (PySem.W.fnOf "read_tree" "read_tree" (defArgs sread_tree) (defBody sread_tree) (defScope sread_tree) .none kVread_tree dcread_tree pmread_tree anread_tree cdread_tree ctread_tree), slread_tree⟩)
    (cread_tree : PySem.W.codeIn K cdread_tree "read_tree" = true)
    (kread_tree : PySem.W.keepIn K (.ref fread_tree) = true)
    (a_law_digits : PySem.W.nsIn K mainGlobals "_law_digits" = some (some (.ref f_law_digits)))
    (l_law_digits : K.lookup f_law_digits = some ⟨oc_law_digits, od_law_digits, .func (PySem.W.fnOf "_law_digits" "_law_digits" (defArgs s_law_digits) (defBody s_law_digits) (defScope s_law_digits) .none kV_law_digits dc_law_digits pm_law_digits an_law_digits cd_law_digits ct_law_digits), sl_law_digits⟩)
    (c_law_digits : PySem.W.codeIn K cd_law_digits "_law_digits" = true)
    (k_law_digits : PySem.W.keepIn K (.ref f_law_digits) = true)
    (a_law_take : PySem.W.nsIn K mainGlobals "_law_take" = some (some (.ref f_law_take)))
    (l_law_take : K.lookup f_law_take = some ⟨oc_law_take, od_law_take, .func (PySem.W.fnOf "_law_take" "_law_take" (defArgs s_law_take) (defBody s_law_take) (defScope s_law_take) .none kV_law_take dc_law_take pm_law_take an_law_take cd_law_take ct_law_take), sl_law_take⟩)
    (c_law_take : PySem.W.codeIn K cd_law_take "_law_take" = true)
    (k_law_take : PySem.W.keepIn K (.ref f_law_take) = true)
    (a_law_whole : PySem.W.nsIn K mainGlobals "_law_whole" = some (some (.ref f_law_whole)))
    (l_law_whole : K.lookup f_law_whole = some ⟨oc_law_whole, od_law_whole, .func (PySem.W.fnOf "_law_whole" "_law_whole" (defArgs s_law_whole) (defBody s_law_whole) (defScope s_law_whole) .none kV_law_whole dc_law_whole pm_law_whole an_law_whole cd_law_whole ct_law_whole), sl_law_whole⟩)
    (c_law_whole : PySem.W.codeIn K cd_law_whole "_law_whole" = true)
    (k_law_whole : PySem.W.keepIn K (.ref f_law_whole) = true)
    (a_law_roads : PySem.W.nsIn K mainGlobals "_law_roads" = some (some (.ref f_law_roads)))
    (l_law_roads : K.lookup f_law_roads = some ⟨oc_law_roads, od_law_roads, .func (PySem.W.fnOf "_law_roads" "_law_roads" (defArgs s_law_roads) (defBody s_law_roads) (defScope s_law_roads) .none kV_law_roads dc_law_roads pm_law_roads an_law_roads cd_law_roads ct_law_roads), sl_law_roads⟩)
    (c_law_roads : PySem.W.codeIn K cd_law_roads "_law_roads" = true)
    (k_law_roads : PySem.W.keepIn K (.ref f_law_roads) = true)
    (a_law_number : PySem.W.nsIn K mainGlobals "_law_number" = some (some (.ref f_law_number)))
    (l_law_number : K.lookup f_law_number = some ⟨oc_law_number, od_law_number, .func (PySem.W.fnOf "_law_number" "_law_number" (defArgs s_law_number) (defBody s_law_number) (defScope s_law_number) .none kV_law_number dc_law_number pm_law_number an_law_number cd_law_number ct_law_number), sl_law_number⟩)
    (c_law_number : PySem.W.codeIn K cd_law_number "_law_number" = true)
    (k_law_number : PySem.W.keepIn K (.ref f_law_number) = true)
    (a_law_text : PySem.W.nsIn K mainGlobals "_law_text" = some (some (.ref f_law_text)))
    (l_law_text : K.lookup f_law_text = some ⟨oc_law_text, od_law_text, .func (PySem.W.fnOf "_law_text" "_law_text" (defArgs s_law_text) (defBody s_law_text) (defScope s_law_text) .none kV_law_text dc_law_text pm_law_text an_law_text cd_law_text ct_law_text), sl_law_text⟩)
    (c_law_text : PySem.W.codeIn K cd_law_text "_law_text" = true)
    (k_law_text : PySem.W.keepIn K (.ref f_law_text) = true)
    (a_law_is : PySem.W.nsIn K mainGlobals "_law_is" = some (some (.ref f_law_is)))
    (l_law_is : K.lookup f_law_is = some ⟨oc_law_is, od_law_is, .func (PySem.W.fnOf "_law_is" "_law_is" (defArgs s_law_is) (defBody s_law_is) (defScope s_law_is) .none kV_law_is dc_law_is pm_law_is an_law_is cd_law_is ct_law_is), sl_law_is⟩)
    (c_law_is : PySem.W.codeIn K cd_law_is "_law_is" = true)
    (k_law_is : PySem.W.keepIn K (.ref f_law_is) = true)
    (a_law_parts : PySem.W.nsIn K mainGlobals "_law_parts" = some (some (.ref f_law_parts)))
    (l_law_parts : K.lookup f_law_parts = some ⟨oc_law_parts, od_law_parts, .func (PySem.W.fnOf "_law_parts" "_law_parts" (defArgs s_law_parts) (defBody s_law_parts) (defScope s_law_parts) .none kV_law_parts dc_law_parts pm_law_parts an_law_parts cd_law_parts ct_law_parts), sl_law_parts⟩)
    (c_law_parts : PySem.W.codeIn K cd_law_parts "_law_parts" = true)
    (k_law_parts : PySem.W.keepIn K (.ref f_law_parts) = true)
    (a_law_read : PySem.W.nsIn K mainGlobals "_law_read" = some (some (.ref f_law_read)))
    (l_law_read : K.lookup f_law_read = some ⟨oc_law_read, od_law_read, .func (PySem.W.fnOf "_law_read" "_law_read" (defArgs s_law_read) (defBody s_law_read) (defScope s_law_read) .none kV_law_read dc_law_read pm_law_read an_law_read cd_law_read ct_law_read), sl_law_read⟩)
    (c_law_read : PySem.W.codeIn K cd_law_read "_law_read" = true)
    (k_law_read : PySem.W.keepIn K (.ref f_law_read) = true)
    (a_law_case : PySem.W.nsIn K mainGlobals "_law_case" = some (some (.ref f_law_case)))
    (l_law_case : K.lookup f_law_case = some ⟨oc_law_case, od_law_case, .func (PySem.W.fnOf "_law_case" "_law_case" (defArgs s_law_case) (defBody s_law_case) (defScope s_law_case) .none kV_law_case dc_law_case pm_law_case an_law_case cd_law_case ct_law_case), sl_law_case⟩)
    (c_law_case : PySem.W.codeIn K cd_law_case "_law_case" = true)
    (k_law_case : PySem.W.keepIn K (.ref f_law_case) = true)
    (alaw : PySem.W.nsIn K mainGlobals "law" = some (some (.ref flaw)))
    (llaw : K.lookup flaw = some ⟨oclaw, odlaw, .func (PySem.W.fnOf "law" "law" (defArgs slaw) (defBody slaw) (defScope slaw) .none kVlaw dclaw pmlaw anlaw cdlaw ctlaw), sllaw⟩)
    (claw : PySem.W.codeIn K cdlaw "law" = true)
    (klaw : PySem.W.keepIn K (.ref flaw) = true)
    (zlen : PySem.W.nsIn K mainGlobals "len" = some none)
    (zrange : PySem.W.nsIn K mainGlobals "range" = some none)
    (zmin : PySem.W.nsIn K mainGlobals "min" = some none)
    (zmax : PySem.W.nsIn K mainGlobals "max" = some none)
    (zint : PySem.W.nsIn K mainGlobals "int" = some none)
    (zstr : PySem.W.nsIn K mainGlobals "str" = some none)
    (zlist : PySem.W.nsIn K mainGlobals "list" = some none)
    (ztuple : PySem.W.nsIn K mainGlobals "tuple" = some none)
    (zisinstance : PySem.W.nsIn K mainGlobals "isinstance" = some none)
    (zzip : PySem.W.nsIn K mainGlobals "zip" = some none)
    (zenumerate : PySem.W.nsIn K mainGlobals "enumerate" = some none)
    (zbool : PySem.W.nsIn K mainGlobals "bool" = some none)
    (zabs : PySem.W.nsIn K mainGlobals "abs" = some none)
    (zsum : PySem.W.nsIn K mainGlobals "sum" = some none)
    (zsorted : PySem.W.nsIn K mainGlobals "sorted" = some none)
    (zreversed : PySem.W.nsIn K mainGlobals "reversed" = some none)
    (ziter : PySem.W.nsIn K mainGlobals "iter" = some none)
    (zset : PySem.W.nsIn K mainGlobals "set" = some none)
    (zdict : PySem.W.nsIn K mainGlobals "dict" = some none)
    (zValueError : PySem.W.nsIn K mainGlobals "ValueError" = some none) :
    ∃ fd : FuncData, (∀ (s : Shared) (v : Value), BindsTo s fd ⟨[v], []⟩ [("script", v)]) ∧ ∀ base : Heap, K.In base → base.Ns mainGlobals mg → FnOk l.prog w K mg base (M0.cx l.prog w) 8 fa fd ["script"] (lift K spLaw) := by
  have e := hfa.symm.trans (PySem.W.mg_of X G alaw)
  cases e
  have bi : Bi mg := ⟨PySem.W.mg_none_of X G zlen, PySem.W.mg_none_of X G zrange, PySem.W.mg_none_of X G zmin, PySem.W.mg_none_of X G zmax, PySem.W.mg_none_of X G zint, PySem.W.mg_none_of X G zstr, PySem.W.mg_none_of X G zlist, PySem.W.mg_none_of X G ztuple, PySem.W.mg_none_of X G zisinstance, PySem.W.mg_none_of X G zzip, PySem.W.mg_none_of X G zenumerate, PySem.W.mg_none_of X G zbool, PySem.W.mg_none_of X G zabs, PySem.W.mg_none_of X G zsum, PySem.W.mg_none_of X G zsorted, PySem.W.mg_none_of X G zreversed, PySem.W.mg_none_of X G ziter, PySem.W.mg_none_of X G zset, PySem.W.mg_none_of X G zdict, PySem.W.mg_none_of X G zValueError⟩
  refine ⟨PySem.W.fnOf "law" "law" (defArgs slaw) (defBody slaw) (defScope slaw) .none kVlaw dclaw pmlaw anlaw cdlaw ctlaw, fun s v => .of_eq rfl, fun base _ _ => ?_⟩
  have icCTree : InsC K CTree := ⟨⟨pgCTree, hdCTree, poCTree, saCTree⟩, haCTree, hnCTree, tkCTree, mrCTree⟩
  have TTree : TreeC K CTree := ⟨icCTree, nCTreeparents, nCTreelengths, nCTreeheights⟩
  have gTree := PySem.W.mg_of X G aCTree
  have EInvalidText : ErrC K mg "InvalidText" CInvalidText := ⟨PySem.W.mg_of X G aCInvalidText, exCInvalidText, kpCInvalidText, sbCInvalidText, tyCInvalidText⟩
  have gDIGITS : ∃ t, mg "DIGITS" = some (.str "0123456789" t) := ⟨_, PySem.W.mg_of X G aDIGITS⟩
  have gMOST_DIGITS : ∃ t, mg "MOST_DIGITS" = some (.int 30 t) := ⟨_, PySem.W.mg_of X G aMOST_DIGITS⟩
  have Fis_integer := fun_mk (st := sis_integer) lis_integer cis_integer kis_integer
  have bis_integer := Fis_integer.binds (ps := ["value"]) fun _ _ _ _ _ _ us hl => match us, hl with | [_], _ => rfl
  have Dis_integer : ∀ M, FnD M l.prog w K mg base "is_integer" 1 (spIsInt K) := fun M => ⟨⟨_, _, _, okis_integer Fis_integer bi , PySem.W.mg_of X G ais_integer, kis_integer, bis_integer⟩⟩
  have Fis_pair := fun_mk (st := sis_pair) lis_pair cis_pair kis_pair
  have bis_pair := Fis_pair.binds (ps := ["value"]) fun _ _ _ _ _ _ us hl => match us, hl with | [_], _ => rfl
  have Dis_pair : ∀ M, FnD M l.prog w K mg base "is_pair" 2 (spIsPair K) := fun M => ⟨⟨_, _, _, okis_pair Fis_pair bi (Dis_integer M), PySem.W.mg_of X G ais_pair, kis_pair, bis_pair⟩⟩
  have FTree_init := fun_mk (st := sTree_init) lTree_init cTree_init kTree_init
  have bTree_init := FTree_init.binds (ps := ["self", "roads"]) fun _ _ _ _ _ _ us hl => match us, hl with | [_, _], _ => rfl
  have DTree_init : ∀ M, MkD M l.prog w K mg base "Tree" CTree 3 (spTreeInit CTree) := fun M => ⟨⟨_, _, _, okTree_init FTree_init bi TTree (Dis_pair M), ⟨mkCTree, aTree_init, iTree_init, kcCTree⟩, gTree, bTree_init⟩⟩
  have FTree_roads := fun_mk (st := sTree_roads) lTree_roads cTree_roads kTree_roads
  have bTree_roads := FTree_roads.binds (ps := ["self"]) fun _ _ _ _ _ _ us hl => match us, hl with | [_], _ => rfl
  have DTree_roads : ∀ M, PrD M l.prog w K mg base CTree "roads" 1 (spRoads CTree) := fun M => ⟨⟨_, _, _, _, okTree_roads FTree_roads bi TTree, ⟨aTree_roads, gTree_roads, tTree_roads, _, rcTree_roads⟩, bTree_roads⟩⟩
  have Fshow_tree := fun_mk (st := sshow_tree) lshow_tree cshow_tree kshow_tree
  have bshow_tree := Fshow_tree.binds (ps := ["tree"]) fun _ _ _ _ _ _ us hl => match us, hl with | [_], _ => rfl
  have Dshow_tree : ∀ M, FnD M l.prog w K mg base "show_tree" 3 (spShowTree CTree) := fun M => ⟨⟨_, _, _, okshow_tree Fshow_tree bi TTree (DTree_roads M), PySem.W.mg_of X G ashow_tree, kshow_tree, bshow_tree⟩⟩
  have Fshow_points := fun_mk (st := sshow_points) lshow_points cshow_points kshow_points
  have bshow_points := Fshow_points.binds (ps := ["points"]) fun _ _ _ _ _ _ us hl => match us, hl with | [_], _ => rfl
  have Dshow_points : ∀ M, FnD M l.prog w K mg base "show_points" 1 spShowPts := fun M => ⟨⟨_, _, _, okshow_points Fshow_points bi , PySem.W.mg_of X G ashow_points, kshow_points, bshow_points⟩⟩
  have Fread_integer := fun_mk (st := sread_integer) lread_integer cread_integer kread_integer
  have bread_integer := Fread_integer.binds (ps := ["word"]) fun _ _ _ _ _ _ us hl => match us, hl with | [_], _ => rfl
  have Dread_integer : ∀ M, FnD M l.prog w K mg base "read_integer" 1 (spReadInt CInvalidText) := fun M => ⟨⟨_, _, _, okread_integer Fread_integer bi EInvalidText gDIGITS gMOST_DIGITS, PySem.W.mg_of X G aread_integer, kread_integer, bread_integer⟩⟩
  have Fread_pairs := fun_mk (st := sread_pairs) lread_pairs cread_pairs kread_pairs
  have bread_pairs := Fread_pairs.binds (ps := ["text", "mark"]) fun _ _ _ _ _ _ us hl => match us, hl with | [_, _], _ => rfl
  have Dread_pairs : ∀ M, FnD M l.prog w K mg base "read_pairs" 2 (spReadPairs CInvalidText K) := fun M => ⟨⟨_, _, _, okread_pairs Fread_pairs bi EInvalidText (Dread_integer M), PySem.W.mg_of X G aread_pairs, kread_pairs, bread_pairs⟩⟩
  have Fread_points := fun_mk (st := sread_points) lread_points cread_points kread_points
  have bread_points := Fread_points.binds (ps := ["text"]) fun _ _ _ _ _ _ us hl => match us, hl with | [_], _ => rfl
  have Dread_points : ∀ M, FnD M l.prog w K mg base "read_points" 3 (spReadPoints CInvalidText K) := fun M => ⟨⟨_, _, _, okread_points Fread_points bi (Dread_pairs M), PySem.W.mg_of X G aread_points, kread_points, bread_points⟩⟩
  have Fread_tree := fun_mk (st := sread_tree) lread_tree cread_tree kread_tree
  have bread_tree := Fread_tree.binds (ps := ["text"]) fun _ _ _ _ _ _ us hl => match us, hl with | [_], _ => rfl
  have Dread_tree : ∀ M, FnD M l.prog w K mg base "read_tree" 5 (spReadTree CInvalidText CTree K) := fun M => ⟨⟨_, _, _, okread_tree Fread_tree bi (Dread_pairs M) DTree_init, PySem.W.mg_of X G aread_tree, kread_tree, bread_tree⟩⟩
  have F_law_digits := fun_mk (st := s_law_digits) l_law_digits c_law_digits k_law_digits
  have b_law_digits := F_law_digits.binds (ps := ["script", "at"]) fun _ _ _ _ _ _ us hl => match us, hl with | [_, _], _ => rfl
  have D_law_digits : ∀ M, FnD M l.prog w K mg base "_law_digits" 1 spDigits := fun M => ⟨⟨_, _, _, ok_law_digits F_law_digits bi , PySem.W.mg_of X G a_law_digits, k_law_digits, b_law_digits⟩⟩
  have F_law_take := fun_mk (st := s_law_take) l_law_take c_law_take k_law_take
  have b_law_take := F_law_take.binds (ps := ["digits", "many"]) fun _ _ _ _ _ _ us hl => match us, hl with | [_, _], _ => rfl
  have D_law_take : ∀ M, FnD M l.prog w K mg base "_law_take" 1 spTake := fun M => ⟨⟨_, _, _, ok_law_take F_law_take bi , PySem.W.mg_of X G a_law_take, k_law_take, b_law_take⟩⟩
  have F_law_whole := fun_mk (st := s_law_whole) l_law_whole c_law_whole k_law_whole
  have b_law_whole := F_law_whole.binds (ps := ["found"]) fun _ _ _ _ _ _ us hl => match us, hl with | [_], _ => rfl
  have D_law_whole : ∀ M, FnD M l.prog w K mg base "_law_whole" 1 (spIsInt K) := fun M => ⟨⟨_, _, _, ok_law_whole F_law_whole bi , PySem.W.mg_of X G a_law_whole, k_law_whole, b_law_whole⟩⟩
  have F_law_roads := fun_mk (st := s_law_roads) l_law_roads c_law_roads k_law_roads
  have b_law_roads := F_law_roads.binds (ps := ["digits", "most", "longest"]) fun _ _ _ _ _ _ us hl => match us, hl with | [_, _, _], _ => rfl
  have D_law_roads : ∀ M, FnD M l.prog w K mg base "_law_roads" 2 spLRoads := fun M => ⟨⟨_, _, _, ok_law_roads F_law_roads bi (D_law_take M), PySem.W.mg_of X G a_law_roads, k_law_roads, b_law_roads⟩⟩
  have F_law_number := fun_mk (st := s_law_number) l_law_number c_law_number k_law_number
  have b_law_number := F_law_number.binds (ps := ["digits"]) fun _ _ _ _ _ _ us hl => match us, hl with | [_], _ => rfl
  have D_law_number : ∀ M, FnD M l.prog w K mg base "_law_number" 2 spNumber := fun M => ⟨⟨_, _, _, ok_law_number F_law_number bi (D_law_take M), PySem.W.mg_of X G a_law_number, k_law_number, b_law_number⟩⟩
  have F_law_text := fun_mk (st := s_law_text) l_law_text c_law_text k_law_text
  have b_law_text := F_law_text.binds (ps := ["pairs", "mark"]) fun _ _ _ _ _ _ us hl => match us, hl with | [_, _], _ => rfl
  have D_law_text : ∀ M, FnD M l.prog w K mg base "_law_text" 1 spLText := fun M => ⟨⟨_, _, _, ok_law_text F_law_text bi , PySem.W.mg_of X G a_law_text, k_law_text, b_law_text⟩⟩
  have F_law_is := fun_mk (st := s_law_is) l_law_is c_law_is k_law_is
  have b_law_is := F_law_is.binds (ps := ["found", "due"]) fun _ _ _ _ _ _ us hl => match us, hl with | [_, _], _ => rfl
  have D_law_is : ∀ M, FnD M l.prog w K mg base "_law_is" 2 spIs := fun M => ⟨⟨_, _, _, ok_law_is F_law_is bi (D_law_whole M), PySem.W.mg_of X G a_law_is, k_law_is, b_law_is⟩⟩
  have F_law_parts := fun_mk (st := s_law_parts) l_law_parts c_law_parts k_law_parts
  have b_law_parts := F_law_parts.binds (ps := ["digits"]) fun _ _ _ _ _ _ us hl => match us, hl with | [_], _ => rfl
  have D_law_parts : ∀ M, FnD M l.prog w K mg base "_law_parts" 3 spParts := fun M => ⟨⟨_, _, _, ok_law_parts F_law_parts bi (D_law_take M) (D_law_roads M) (D_law_number M), PySem.W.mg_of X G a_law_parts, k_law_parts, b_law_parts⟩⟩
  have F_law_read := fun_mk (st := s_law_read) l_law_read c_law_read k_law_read
  have b_law_read := F_law_read.binds (ps := ["roads", "points"]) fun _ _ _ _ _ _ us hl => match us, hl with | [_, _], _ => rfl
  have D_law_read : ∀ M, FnD M l.prog w K mg base "_law_read" 6 spRead := fun M => ⟨⟨_, _, _, ok_law_read F_law_read bi TTree gTree (DTree_roads M) (Dread_tree M) (Dread_points M) (D_law_text M) (D_law_is M) (Dshow_tree M) (Dshow_points M), PySem.W.mg_of X G a_law_read, k_law_read, b_law_read⟩⟩
  have F_law_case := fun_mk (st := s_law_case) l_law_case c_law_case k_law_case
  have b_law_case := F_law_case.binds (ps := ["digits"]) fun _ _ _ _ _ _ us hl => match us, hl with | [_], _ => rfl
  have D_law_case : ∀ M, FnD M l.prog w K mg base "_law_case" 7 spCase := fun M => ⟨⟨_, _, _, ok_law_case F_law_case bi TTree (DTree_roads M) (Dread_tree M) (Dread_points M) (D_law_is M) (D_law_parts M) (D_law_read M), PySem.W.mg_of X G a_law_case, k_law_case, b_law_case⟩⟩
  have Flaw := fun_mk (st := slaw) llaw claw klaw
  have blaw := Flaw.binds (ps := ["script"]) fun _ _ _ _ _ _ us hl => match us, hl with | [_], _ => rfl
  exact oklaw Flaw bi (D_law_case M0) (D_law_digits M0)
theorem walk {l : PySem.W.OpenLaw} {q : Program} {loose : List Str} {XP : (Str → Option Value) → Heap → Prop} {YP : World → Heap → Prop} {d : DefRec} {K : Params → PySem.W.Frag} (hn : l.most = some 63) (hdf : d.params.defaults = [])
    (hY : ∀ (w : World) (h : Heap), YP w h → (K w.params).In h)
    (F : ∀ (w : World) (mg : Str → Option Value) (fa : Addr) (h : Heap), (K w.params).In h → h.Ns mainGlobals mg → mg d.name = some (.ref fa) →
      ∃ fd : FuncData, (∀ (s : Shared) (u : Value), BindsTo s fd ⟨[u], []⟩ [("script", u)]) ∧ ∀ base : Heap, (K w.params).In base → base.Ns mainGlobals mg → FnOk l.prog w (K w.params) mg base (M0.cx l.prog w) 8 fa fd ["script"] (lift (K w.params) spLaw)) :
    PySem.W.WalkO q loose XP YP l.row.toRowW d [] (fun f vs => PySem.call f vs) := by
  refine L2.walk_ofB (n := 63) (k := 8) (x := "script") (CX := fun w => M0.cx l.prog w) (sp := fun w => lift (K w.params) spLaw) hn (by decide) hdf ⟨rfl, by decide, by decide⟩ hY F (fun w H a ns _ hb hO hS => ?_) fun w H s e s' hc => ?_
  · exact ⟨H, fun _ => none, [.lsk (ns.map D.int)], fun d _ => d = .bl true, fun _ _ => False, ⟨fun _ _ e => e, fun _ _ e => by cases e⟩, .cons (.lsk hS (reps_ints ns)) .nil, ⟨ns, rfl, hb, rfl⟩, fun d O' v J H' e _ _ r => by rw [e] at r; cases r; rfl, fun _ _ _ _ z => z.elim⟩
  · obtain ⟨_, _, _, _, _, _, _, _, _, _, _, _, z⟩ := hc
    exact z.elim
end K
open PySem PySem.W PyProof.Rows
set_option maxRecDepth 100000 in
set_option maxHeartbeats 0 in
theorem PySem.Challenge.cw_bothcome_k71_texts_are_read_holds : PySem.Challenge.rw_bothcome_k71_texts_are_read.Holds := by
  w_on; o_law; k_head; (case hw => w_witness2)
  k_fill
  refine K.walk (l := PySem.Challenge.rw_bothcome_k71_texts_are_read) rfl rfl (fun w h Y => PySem.W.kIn_of Y) ?F
  case F =>
    intro w mg fa h KX G hmg
    refine' K.all_mk KX G hmg ?aCTree ?pgCTree ?hdCTree ?poCTree ?saCTree ?haCTree ?hnCTree ?tkCTree ?mrCTree ?mkCTree ?kcCTree ?nCTreeparents ?nCTreelengths ?nCTreeheights ?aCInvalidText ?exCInvalidText ?kpCInvalidText ?sbCInvalidText ?tyCInvalidText ?aDIGITS ?aMOST_DIGITS ?ais_integer ?lis_integer ?cis_integer ?kis_integer ?ais_pair ?lis_pair ?cis_pair ?kis_pair ?aTree_init ?lTree_init ?cTree_init ?kTree_init ?iTree_init ?aTree_roads ?gTree_roads ?tTree_roads ?rcTree_roads ?lTree_roads ?cTree_roads ?kTree_roads ?ashow_tree ?lshow_tree ?cshow_tree ?kshow_tree ?ashow_points ?lshow_points ?cshow_points ?kshow_points ?aread_integer ?lread_integer ?cread_integer ?kread_integer ?aread_pairs ?lread_pairs ?cread_pairs ?kread_pairs ?aread_points ?lread_points ?cread_points ?kread_points ?aread_tree ?lread_tree ?cread_tree ?kread_tree ?a_law_digits ?l_law_digits ?c_law_digits ?k_law_digits ?a_law_take ?l_law_take ?c_law_take ?k_law_take ?a_law_whole ?l_law_whole ?c_law_whole ?k_law_whole ?a_law_roads ?l_law_roads ?c_law_roads ?k_law_roads ?a_law_number ?l_law_number ?c_law_number ?k_law_number ?a_law_text ?l_law_text ?c_law_text ?k_law_text ?a_law_is ?l_law_is ?c_law_is ?k_law_is ?a_law_parts ?l_law_parts ?c_law_parts ?k_law_parts ?a_law_read ?l_law_read ?c_law_read ?k_law_read ?a_law_case ?l_law_case ?c_law_case ?k_law_case ?alaw ?llaw ?claw ?klaw ?zlen ?zrange ?zmin ?zmax ?zint ?zstr ?zlist ?ztuple ?zisinstance ?zzip ?zenumerate ?zbool ?zabs ?zsum ?zsorted ?zreversed ?ziter ?zset ?zdict ?zValueError
    (case aCTree => k_is); (case pgCTree => k_is); (case hdCTree => k_is); (case poCTree => k_is); (case saCTree => k_is); (case haCTree => k_is)
    (case hnCTree => k_is); (case tkCTree => k_is); (case mrCTree => k_is); (case mkCTree => k_is); (case kcCTree => k_is); (case nCTreeparents => k_is)
    (case nCTreelengths => k_is); (case nCTreeheights => k_is); (case aCInvalidText => k_is); (case exCInvalidText => k_exc); (case kpCInvalidText => k_is); (case sbCInvalidText => k_is)
    (case tyCInvalidText => k_is); (case aDIGITS => k_is); (case aMOST_DIGITS => k_is); (case ais_integer => k_is); (case lis_integer => k_is); (case cis_integer => k_is)
    (case kis_integer => k_is); (case ais_pair => k_is); (case lis_pair => k_is); (case cis_pair => k_is); (case kis_pair => k_is); (case aTree_init => k_is)
    (case lTree_init => k_is); (case cTree_init => k_is); (case kTree_init => k_is); (case iTree_init => k_is); (case aTree_roads => k_is); (case gTree_roads => k_is)
    (case tTree_roads => k_is); (case rcTree_roads => k_is); (case lTree_roads => k_is); (case cTree_roads => k_is); (case kTree_roads => k_is); (case ashow_tree => k_is)
    (case lshow_tree => k_is); (case cshow_tree => k_is); (case kshow_tree => k_is); (case ashow_points => k_is); (case lshow_points => k_is); (case cshow_points => k_is)
    (case kshow_points => k_is); (case aread_integer => k_is); (case lread_integer => k_is); (case cread_integer => k_is); (case kread_integer => k_is); (case aread_pairs => k_is)
    (case lread_pairs => k_is); (case cread_pairs => k_is); (case kread_pairs => k_is); (case aread_points => k_is); (case lread_points => k_is); (case cread_points => k_is)
    (case kread_points => k_is); (case aread_tree => k_is); (case lread_tree => k_is); (case cread_tree => k_is); (case kread_tree => k_is); (case a_law_digits => k_is)
    (case l_law_digits => k_is); (case c_law_digits => k_is); (case k_law_digits => k_is); (case a_law_take => k_is); (case l_law_take => k_is); (case c_law_take => k_is)
    (case k_law_take => k_is); (case a_law_whole => k_is); (case l_law_whole => k_is); (case c_law_whole => k_is); (case k_law_whole => k_is); (case a_law_roads => k_is)
    (case l_law_roads => k_is); (case c_law_roads => k_is); (case k_law_roads => k_is); (case a_law_number => k_is); (case l_law_number => k_is); (case c_law_number => k_is)
    (case k_law_number => k_is); (case a_law_text => k_is); (case l_law_text => k_is); (case c_law_text => k_is); (case k_law_text => k_is); (case a_law_is => k_is)
    (case l_law_is => k_is); (case c_law_is => k_is); (case k_law_is => k_is); (case a_law_parts => k_is); (case l_law_parts => k_is); (case c_law_parts => k_is)
    (case k_law_parts => k_is); (case a_law_read => k_is); (case l_law_read => k_is); (case c_law_read => k_is); (case k_law_read => k_is); (case a_law_case => k_is)
    (case l_law_case => k_is); (case c_law_case => k_is); (case k_law_case => k_is); (case alaw => k_is); (case llaw => k_is); (case claw => k_is)
    (case klaw => k_is); (case zlen => k_is); (case zrange => k_is); (case zmin => k_is); (case zmax => k_is); (case zint => k_is)
    (case zstr => k_is); (case zlist => k_is); (case ztuple => k_is); (case zisinstance => k_is); (case zzip => k_is); (case zenumerate => k_is)
    (case zbool => k_is); (case zabs => k_is); (case zsum => k_is); (case zsorted => k_is); (case zreversed => k_is); (case ziter => k_is)
    (case zset => k_is); (case zdict => k_is); (case zValueError => k_is)

