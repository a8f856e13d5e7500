import PyProof.Rows.All
import Wide.All
import OpenK.AllK
import Wide.FinOn
import HandS.ForMost
import HandS.Exc
import HandS.ExcOwn
import HandS.WordsExc
import HandS.CallSlots
import HandS.Wide
import HandS.Slots
import HandS.TupAny
import HandS.Deep
import HandS.TupLe
import HandS.ExcInit
import HandS.ExcField
import HandS.ExcIs
import HandS.TryMany
import HandS.More
import HandS.SetFor
import HandS.Small
import HandS.Text
import HandS.IsInst
import HandS.Codes
import KE.KExcIs
import HandS.HotCalls
import HandS.OwnEq
import HandS.IterNext
import HandS.IterVal
import HandS.OwnIter
import HandS.Finally
import HandS.ExcInitHot
import HandS.EndBits
import HandS.Conv
import HandS.DictComp
import HandS.Iter
import HandS.TupLen
import KE.KEqDict
import HandS.ExcValue
import KE.KDictWalk
import HandS.Defaults
import HandS.Lambda
import HandS.FStr
import PyProof.FString3
import PyProof.Rows.StrIntSpec
import KE.KStrBytes
import HandS.Bytes
import HandS.StrMore
import HandS.SlotsOwn
import HandS.Property
import PySem.Challenge.RW_partkeepers_k10_packed_letters
set_option Elab.async false
set_option linter.all false
set_option maxRecDepth 100000
/-! Z1: tree values, owned cells, and how they lie in the abstract heap. -/
namespace Z
open PySem PySem.Spec PyProof.Rows L2

inductive W where
  | non
  | bl (b : Bool)
  | int (i : Int)
  | str (x : Str)
  | byt (b : Array UInt8)
  | tup (ws : List W)
  | lst (ws : List W)
  | frl (ws : List W)
  | dK (kvs : List (Key × W))
  | dT (kvs : List (List Key × W))
  | dF (kvs : List (List Key × W))
  | obj (nm : Str) (fs : List (Str × W))
  | slt (nm : Str) (ws : List W)
  | ref (n : Nat)
instance : Inhabited W := ⟨.non⟩

inductive Cell where
  | lst (ws : List W)
  | dK (kvs : List (Key × W))
  | dT (kvs : List (List Key × W))
  | ins (nm : Str) (fs : List (Str × W))
def Cell.toW : Cell → W
  | .lst ws => .lst ws
  | .dK k => .dK k
  | .dT k => .dT k
  | .ins n f => .obj n f
@[simp] theorem toW_lst {ws : List W} : (Cell.lst ws).toW = .lst ws := rfl
@[simp] theorem toW_dK {ws : List (Key × W)} : (Cell.dK ws).toW = .dK ws := rfl
@[simp] theorem toW_dT {ws : List (List Key × W)} : (Cell.dT ws).toW = .dT ws := rfl
@[simp] theorem toW_ins {n : Str} {ws : List (Str × W)} : (Cell.ins n ws).toW = .obj n ws := rfl

structure Ex where
  nm : Str
  fs : List (Str × W)
inductive SV where
  | non
  | val (w : W)
  | own (c : Cell)
  | exc (x : Ex)
/-- the exception that a suite holds -/
structure EA where
  a : Addr
  cls : Value
  d : Option Addr
def ea0 : EA := ⟨0, .none, none⟩
inductive RV where
  | val (w : W)
  | own (c : Cell)
  | hnd (i : Nat)
structure S where
  r : List SV
  G : List Cell

section
variable (K : PySem.W.Frag) (mg : Str → Option Value)
/-- a tuple of the written part -/
def KT (a : Addr) (vs : List V) : Prop := ∃ (o : Obj) (its : Array Value) (n : Nat), K.lookup a = some o ∧ o.cls = .type "tuple" ∧ o.data = .seq its n ∧ its.size ≤ sizeLine ∧ Vals vs its.toList
/-- a list of the written part -/
def KL (a : Addr) (vs : List V) : Prop := ∃ (o : Obj) (its : Array Value) (n : Nat), K.lookup a = some o ∧ o.cls = .type "list" ∧ o.dict = none ∧ o.data = .seq its n ∧ its.size ≤ sizeLine ∧ Vals vs its.toList

inductive Rw (io : List Addr) (M : Addr → Prop) (H : Hp) : W → V → Prop
  | non : Rw io M H .non .non
  | bl (b : Bool) : Rw io M H (.bl b) (.bl b)
  | int (i : Int) : Rw io M H (.int i) (.int i)
  | str (x : Str) : Rw io M H (.str x) (.str x)
  | byt (b : Array UInt8) : Rw io M H (.byt b) (.byt b)
  | tup {ws : List W} {a : Addr} {vs : List V} : ((H a = some (.tup vs) ∧ ¬ M a) ∨ (KT K a vs ∧ vs = [])) → ws.length = vs.length → (∀ (i : Nat) (w : W) (v : V), ws[i]? = some w → vs[i]? = some v → Rw io M H w v) → Rw io M H (.tup ws) (.ref a)
  | frl {ws : List W} {a : Addr} {vs : List V} : ((Rd H a (.lst vs) ∧ ¬ M a) ∨ KL K a vs) → ws.length = vs.length → (∀ (i : Nat) (w : W) (v : V), ws[i]? = some w → vs[i]? = some v → Rw io M H w v) → Rw io M H (.frl ws) (.ref a)
  | lst {ws : List W} {a : Addr} {vs : List V} : H a = some (.lst vs) → ¬ M a → ws.length = vs.length → (∀ (i : Nat) (w : W) (v : V), ws[i]? = some w → vs[i]? = some v → Rw io M H w v) → Rw io M H (.lst ws) (.ref a)
  | dK {ws : List (Key × W)} {a : Addr} {vs : List (Key × V)} : Rd H a (.dK vs) → ¬ M a → ws.map (·.1) = vs.map (·.1) → (∀ (i : Nat) (w : W) (v : V), (ws.map (·.2))[i]? = some w → (vs.map (·.2))[i]? = some v → Rw io M H w v) → Rw io M H (.dK ws) (.ref a)
  | dT {ws : List (List Key × W)} {a : Addr} {vs : List (List Key × V)} : Rd H a (.dT vs) → ¬ M a → ws.map (·.1) = vs.map (·.1) → (∀ (i : Nat) (w : W) (v : V), (ws.map (·.2))[i]? = some w → (vs.map (·.2))[i]? = some v → Rw io M H w v) → Rw io M H (.dT ws) (.ref a)
  | dF {ws : List (List Key × W)} {a : Addr} {ob : Obj} {vs : List (List Key × V)} : H a = some (.frz ob (.dT vs)) → ¬ M a → ws.map (·.1) = vs.map (·.1) → (∀ (i : Nat) (w : W) (v : V), (ws.map (·.2))[i]? = some w → (vs.map (·.2))[i]? = some v → Rw io M H w v) → Rw io M H (.dF ws) (.ref a)
  | obj {nm : Str} {ws : List (Str × W)} {a C dx : Addr} {vs : List (Str × V)} : mg nm = some (.ref C) → H a = some (.ins C dx vs) → ¬ M a → ws.map (·.1) = vs.map (·.1) → (∀ (i : Nat) (w : W) (v : V), (ws.map (·.2))[i]? = some w → (vs.map (·.2))[i]? = some v → Rw io M H w v) → Rw io M H (.obj nm ws) (.ref a)
  | slt {nm : Str} {ws : List W} {a C dx : Addr} {vs : List V} : mg nm = some (.ref C) → H a = some (SlX.SlO a C dx (vs.map some)) → ¬ M a → H dx = some (.xd []) → ¬ M dx → ws.length = vs.length → (∀ (i : Nat) (w : W) (v : V), ws[i]? = some w → vs[i]? = some v → Rw io M H w v) → Rw io M H (.slt nm ws) (.ref a)
  | ref {n : Nat} {a : Addr} : io[n]? = some a → Rw io M H (.ref n) (.ref a)

def Rws (io : List Addr) (M : Addr → Prop) (H : Hp) (ws : List W) (vs : List V) : Prop :=
  ws.length = vs.length ∧ ∀ (i : Nat) (w : W) (v : V), ws[i]? = some w → vs[i]? = some v → Rw K mg io M H w v
def Rkv {κ : Type} (io : List Addr) (M : Addr → Prop) (H : Hp) (ws : List (κ × W)) (vs : List (κ × V)) : Prop :=
  ws.map (·.1) = vs.map (·.1) ∧ Rws K mg io M H (ws.map (·.2)) (vs.map (·.2))
end

section
variable {K : PySem.W.Frag} {mg : Str → Option Value} {io io' : List Addr} {M M' : Addr → Prop} {H H' : Hp} {w : W} {v : V} {ws : List W} {vs : List V}

/-- how a frozen value outlives a step -/
structure Pers (io : List Addr) (M : Addr → Prop) (H : Hp) (io' : List Addr) (M' : Addr → Prop) (H' : Hp) : Prop where
  keep : ∀ a o, H a = some o → ¬ M a → H' a = some o
  new : ∀ a, M' a → M a ∨ H a = none
  ext : ∀ (n : Nat) (a : Addr), io[n]? = some a → io'[n]? = some a

theorem Pers.notin (p : Pers io M H io' M' H') {a : Addr} {o : HO} (h : H a = some o) (hM : ¬ M a) : ¬ M' a := fun z => by
  rcases p.new a z with q | q
  · exact hM q
  · rw [h] at q; cases q
theorem Rd.some_of {a : Addr} {u : HO} (h : Rd H a u) : ∃ o, H a = some o := by
  rcases h with h | ⟨o, h⟩
  · exact ⟨_, h⟩
  · exact ⟨_, h⟩
theorem Pers.rd (p : Pers io M H io' M' H') {a : Addr} {u : HO} (h : Rd H a u) (hM : ¬ M a) : Rd H' a u := by
  rcases h with h | ⟨o, h⟩
  · exact .inl (p.keep _ _ h hM)
  · exact .inr ⟨o, p.keep _ _ h hM⟩
theorem Pers.notin' (p : Pers io M H io' M' H') {a : Addr} {u : HO} (h : Rd H a u) (hM : ¬ M a) : ¬ M' a :=
  let ⟨_, q⟩ := Rd.some_of h
  p.notin q hM

theorem Rw.pers (p : Pers io M H io' M' H') (h : Rw K mg io M H w v) : Rw K mg io' M' H' w v := by
  induction h with
  | non => exact .non
  | bl b => exact .bl b
  | int i => exact .int i
  | str x => exact .str x
  | byt b => exact .byt b
  | tup h l _ ih => exact .tup (h.imp (fun ⟨x, y⟩ => ⟨p.keep _ _ x y, p.notin x y⟩) id) l ih
  | frl h l _ ih => exact .frl (h.imp (fun ⟨x, y⟩ => ⟨p.rd x y, p.notin' x y⟩) id) l ih
  | lst h n l _ ih => exact .lst (p.keep _ _ h n) (p.notin h n) l ih
  | dK h n l _ ih => exact .dK (p.rd h n) (p.notin' h n) l ih
  | dT h n l _ ih => exact .dT (p.rd h n) (p.notin' h n) l ih
  | dF h n l _ ih => exact .dF (p.keep _ _ h n) (p.notin h n) l ih
  | obj m h n l _ ih => exact .obj m (p.keep _ _ h n) (p.notin h n) l ih
  | slt m h n h2 n2 l _ ih => exact .slt m (p.keep _ _ h n) (p.notin h n) (p.keep _ _ h2 n2) (p.notin h2 n2) l ih
  | ref h => exact .ref (p.ext _ _ h)
theorem Rws.pers (p : Pers io M H io' M' H') (h : Rws K mg io M H ws vs) : Rws K mg io' M' H' ws vs := ⟨h.1, fun i w v a b => (h.2 i w v a b).pers p⟩
theorem Rkv.pers {κ : Type} {ws : List (κ × W)} {vs : List (κ × V)} (p : Pers io M H io' M' H') (h : Rkv K mg io M H ws vs) : Rkv K mg io' M' H' ws vs := ⟨h.1, h.2.pers p⟩
theorem Pers.refl : Pers io M H io M H := ⟨fun _ _ h _ => h, fun _ h => .inl h, fun _ _ h => h⟩
theorem Pers.less (h : ∀ a, M' a → M a) : Pers io M H io M' H := ⟨fun _ _ h _ => h, fun a z => .inl (h a z), fun _ _ h => h⟩

theorem Rws.nil : Rws K mg io M H [] [] := ⟨rfl, fun i w v h => by simp at h⟩
theorem Rws.cons (h : Rw K mg io M H w v) (t : Rws K mg io M H ws vs) : Rws K mg io M H (w :: ws) (v :: vs) := by
  refine ⟨by simp [t.1], fun i a b ha hb => ?_⟩
  cases i with
  | zero => simp at ha hb; subst ha; subst hb; exact h
  | succ i => exact t.2 i a b (by simpa using ha) (by simpa using hb)
theorem Rws.cons_inv (h : Rws K mg io M H (w :: ws) vs) : ∃ v r, vs = v :: r ∧ Rw K mg io M H w v ∧ Rws K mg io M H ws r := by
  cases vs with
  | nil => have := h.1; simp at this
  | cons v r => exact ⟨v, r, rfl, h.2 0 w v rfl rfl, by have := h.1; simpa using this, fun i a b ha hb => h.2 (i + 1) a b (by simpa using ha) (by simpa using hb)⟩
theorem Rws.nil_inv (h : Rws K mg io M H [] vs) : vs = [] := by
  have := h.1
  cases vs with
  | nil => rfl
  | cons _ _ => simp at this
theorem Rws.get (h : Rws K mg io M H ws vs) {i : Nat} (e : ws[i]? = some w) : ∃ v, vs[i]? = some v ∧ Rw K mg io M H w v := by
  have hi : i < ws.length := by
    rcases Nat.lt_or_ge i ws.length with q | q
    · exact q
    · rw [List.getElem?_eq_none_iff.mpr q] at e; cases e
  have hv : i < vs.length := by rw [← h.1]; exact hi
  exact ⟨vs[i], by simp [hv], h.2 i w _ e (by simp [hv])⟩
theorem Rws.get' (h : Rws K mg io M H ws vs) {i : Nat} (e : vs[i]? = some v) : ∃ w, ws[i]? = some w ∧ Rw K mg io M H w v := by
  have hi : i < vs.length := by
    rcases Nat.lt_or_ge i vs.length with q | q
    · exact q
    · rw [List.getElem?_eq_none_iff.mpr q] at e; cases e
  have hv : i < ws.length := by rw [h.1]; exact hi
  exact ⟨ws[i], by simp [hv], h.2 i _ v (by simp [hv]) e⟩
theorem Rws.append {ws' : List W} {vs' : List V} (h : Rws K mg io M H ws vs) (t : Rws K mg io M H ws' vs') : Rws K mg io M H (ws ++ ws') (vs ++ vs') := by
  refine ⟨by simp [h.1, t.1], fun i a b ha hb => ?_⟩
  rcases Nat.lt_or_ge i ws.length with q | q
  · rw [List.getElem?_append_left q] at ha
    rw [List.getElem?_append_left (by rw [← h.1]; exact q)] at hb
    exact h.2 i a b ha hb
  · rw [List.getElem?_append_right q] at ha
    rw [List.getElem?_append_right (by rw [← h.1]; exact q)] at hb
    rw [← h.1] at hb
    exact t.2 _ a b ha hb
theorem Rws.one (h : Rw K mg io M H w v) : Rws K mg io M H [w] [v] := Rws.cons h Rws.nil
theorem Rws.set (h : Rws K mg io M H ws vs) {i : Nat} (hw : Rw K mg io M H w v) : Rws K mg io M H (ws.set i w) (vs.set i v) := by
  refine ⟨by simp [h.1], fun j a b ha hb => ?_⟩
  by_cases e : i = j
  · subst e
    rcases Nat.lt_or_ge i ws.length with q | q
    · rw [List.getElem?_set_self q] at ha
      rw [List.getElem?_set_self (by rw [← h.1]; exact q)] at hb
      cases ha; cases hb; exact hw
    · rw [List.getElem?_eq_none (by simpa using q)] at ha; cases ha
  · rw [List.getElem?_set_ne e] at ha hb
    exact h.2 j a b ha hb
theorem Rws.take (h : Rws K mg io M H ws vs) (n : Nat) : Rws K mg io M H (ws.take n) (vs.take n) := by
  refine ⟨by simp [h.1], fun i a b ha hb => ?_⟩
  rw [List.getElem?_take] at ha hb
  split at ha
  · rename_i q
    rw [if_pos q] at hb
    exact h.2 i a b ha hb
  · cases ha
theorem Rws.drop (h : Rws K mg io M H ws vs) (n : Nat) : Rws K mg io M H (ws.drop n) (vs.drop n) := by
  refine ⟨by simp [h.1], fun i a b ha hb => ?_⟩
  rw [List.getElem?_drop] at ha hb
  exact h.2 _ a b ha hb
theorem Rkv.nil {κ : Type} : Rkv (κ := κ) K mg io M H [] [] := ⟨rfl, Rws.nil⟩
theorem Rkv.cons {κ : Type} {k : κ} {ws : List (κ × W)} {vs : List (κ × V)} (h : Rw K mg io M H w v) (t : Rkv K mg io M H ws vs) : Rkv K mg io M H ((k, w) :: ws) ((k, v) :: vs) := ⟨by simp [t.1], Rws.cons h t.2⟩
theorem Rkv.cons_inv {κ : Type} {k : κ} {ws : List (κ × W)} {vs : List (κ × V)} (h : Rkv K mg io M H ((k, w) :: ws) vs) : ∃ v r, vs = (k, v) :: r ∧ Rw K mg io M H w v ∧ Rkv K mg io M H ws r := by
  cases vs with
  | nil => have := h.1; simp at this
  | cons p r =>
    obtain ⟨k', v⟩ := p
    have e := h.1
    simp only [List.map_cons, List.cons.injEq] at e
    obtain ⟨v', r', e', h1, h2⟩ := Rws.cons_inv (by simpa using h.2 : Rws K mg io M H (w :: ws.map (·.2)) (((k', v) :: r).map (·.2)))
    simp only [List.map_cons, List.cons.injEq] at e'
    obtain ⟨rfl, e2⟩ := e'
    obtain ⟨rfl, e1⟩ := e
    exact ⟨v, r, rfl, h1, e1, by rw [e2]; exact h2⟩
theorem Rkv.nil_inv {κ : Type} {vs : List (κ × V)} (h : Rkv K mg io M H [] vs) : vs = [] := by
  have := h.1
  cases vs with
  | nil => rfl
  | cons _ _ => simp at this
theorem Rkv.length {κ : Type} {ws : List (κ × W)} {vs : List (κ × V)} (h : Rkv K mg io M H ws vs) : ws.length = vs.length := by
  have := congrArg List.length h.1
  simpa using this
theorem Rkv.lookup {κ : Type} [BEq κ] {k : κ} {vs : List (κ × V)} : ∀ {ws : List (κ × W)} {vs : List (κ × V)}, Rkv K mg io M H ws vs → ws.lookup k = some w → ∃ v, vs.lookup k = some v ∧ Rw K mg io M H w v
  | [], _, _, e => by simp at e
  | (k', w') :: ws, vs, h, e => by
    obtain ⟨v, r, rfl, h1, h2⟩ := Rkv.cons_inv h
    by_cases q : (k == k') = true
    · rw [List.lookup_cons, q] at e
      simp at e
      subst e
      exact ⟨v, by rw [List.lookup_cons, q], h1⟩
    · have q' : (k == k') = false := by simpa using q
      rw [List.lookup_cons, q'] at e
      obtain ⟨u, h3, h4⟩ := Rkv.lookup (vs := r) h2 e
      exact ⟨u, by rw [List.lookup_cons, q']; exact h3, h4⟩
theorem Rkv.lookup_none {κ : Type} [BEq κ] {k : κ} : ∀ {ws : List (κ × W)} {vs : List (κ × V)}, Rkv K mg io M H ws vs → ws.lookup k = none → vs.lookup k = none
  | [], _, h, _ => by rw [h.nil_inv]; rfl
  | (k', w') :: ws, vs, h, e => by
    obtain ⟨v, r, rfl, h1, h2⟩ := Rkv.cons_inv h
    by_cases q : (k == k') = true
    · rw [List.lookup_cons, q] at e
      simp at e
    · have q' : (k == k') = false := by simpa using q
      rw [List.lookup_cons, q'] at e ⊢
      exact Rkv.lookup_none h2 e

/-! ### what a cell holds -/
/-- an object that is no tuple -/
def Nt (o : HO) : Prop := ∀ vs, o ≠ .tup vs
theorem Nt.of {H : Hp} {a : Addr} {o : HO} (h : H a = some o) (n : Nt o) (vs : List V) : H a ≠ some (.tup vs) := fun z => n vs (Option.some.inj (h.symm.trans z))

def Rc (K : PySem.W.Frag) (mg : Str → Option Value) (io : List Addr) (M : Addr → Prop) (H : Hp) : Cell → HO → Prop
  | .lst ws, o => ∃ vs, o = .lst vs ∧ Rws K mg io M H ws vs
  | .dK ws, o => ∃ vs, o = .dK vs ∧ Rkv K mg io M H ws vs
  | .dT ws, o => ∃ vs, o = .dT vs ∧ Rkv K mg io M H ws vs
  | .ins nm ws, o => ∃ C dx vs, o = .ins C dx vs ∧ mg nm = some (.ref C) ∧ Rkv K mg io M H ws vs
variable {c : Cell} {o : HO}
theorem Rc.pers (p : Pers io M H io' M' H') (h : Rc K mg io M H c o) : Rc K mg io' M' H' c o := by
  cases c with
  | lst ws => obtain ⟨vs, e, h⟩ := h; exact ⟨vs, e, h.pers p⟩
  | dK ws => obtain ⟨vs, e, h⟩ := h; exact ⟨vs, e, h.pers p⟩
  | dT ws => obtain ⟨vs, e, h⟩ := h; exact ⟨vs, e, h.pers p⟩
  | ins nm ws => obtain ⟨C, dx, vs, e, m, h⟩ := h; exact ⟨C, dx, vs, e, m, h.pers p⟩
theorem Rc.froze {a : Addr} (h : Rc K mg io M H c o) (ha : H a = some o) (hn : ¬ M a) : Rw K mg io M H c.toW (.ref a) := by
  cases c with
  | lst ws => obtain ⟨vs, rfl, h⟩ := h; exact .lst ha hn h.1 h.2
  | dK ws => obtain ⟨vs, rfl, h⟩ := h; exact .dK (.inl ha) hn h.1 h.2.2
  | dT ws => obtain ⟨vs, rfl, h⟩ := h; exact .dT (.inl ha) hn h.1 h.2.2
  | ins nm ws => obtain ⟨C, dx, vs, rfl, m, h⟩ := h; exact .obj m ha hn h.1 h.2.2
theorem Rc.mut (h : Rc K mg io M H c o) : L2.Mut (some o) := by
  cases c with
  | lst ws => obtain ⟨vs, rfl, h⟩ := h; trivial
  | dK ws => obtain ⟨vs, rfl, h⟩ := h; trivial
  | dT ws => obtain ⟨vs, rfl, h⟩ := h; trivial
  | ins nm ws => obtain ⟨C, dx, vs, rfl, m, h⟩ := h; trivial

theorem Rc.nt (h : Rc K mg io M H c o) : Nt o := by
  cases c with
  | lst ws => obtain ⟨vs, rfl, h⟩ := h; intro _ z; cases z
  | dK ws => obtain ⟨vs, rfl, h⟩ := h; intro _ z; cases z
  | dT ws => obtain ⟨vs, rfl, h⟩ := h; intro _ z; cases z
  | ins nm ws => obtain ⟨C, dx, vs, rfl, m, h⟩ := h; intro _ z; cases z
/-- an exception's class and own dict -/
def ExR (K : PySem.W.Frag) (mg : Str → Option Value) (io : List Addr) (M : Addr → Prop) (H : Hp) (x : Ex) (cls : Value) (d : Option Addr) : Prop :=
  ∃ C, mg x.nm = some (.ref C) ∧ cls = .ref C ∧ ((x.fs = [] ∧ d = none) ∨ ∃ dd vs, d = some dd ∧ H dd = some (.xd vs) ∧ ¬ M dd ∧ Rkv K mg io M H x.fs vs)
theorem ExR.pers {x : Ex} {cls : Value} {d : Option Addr} (p : Pers io M H io' M' H') (h : ExR K mg io M H x cls d) : ExR K mg io' M' H' x cls d := by
  obtain ⟨C, h1, h2, h3⟩ := h
  refine ⟨C, h1, h2, h3.imp id ?_⟩
  rintro ⟨dd, vs, e1, e2, e3, e4⟩
  exact ⟨dd, vs, e1, p.keep _ _ e2 e3, p.notin e2 e3, e4.pers p⟩
/-! ### the state -/
def Mu (io : List Addr) (Fr : Addr → Prop) : Addr → Prop := fun a => a ∈ io ∨ Fr a
structure GSim (K : PySem.W.Frag) (mg : Str → Option Value) (io : List Addr) (Fr : Addr → Prop) (G : List Cell) (H : Hp) : Prop where
  len : io.length = G.length
  cell : ∀ (n : Nat) (a : Addr) (c : Cell), io[n]? = some a → G[n]? = some c → ∃ o, H a = some o ∧ Rc K mg io (Mu io Fr) H c o
  nd : io.Nodup
  dj : ∀ a ∈ io, ¬ Fr a
  fr : ∀ a, Fr a → ∃ o, H a = some o ∧ Nt o
def FrO (Fr : Addr → Prop) (r : List SV) (σ : L2.St) : Addr → Prop := fun a => Fr a ∨ ∃ (i : Nat) (c : Cell), r[i]? = some (.own c) ∧ σ[i]? = some (some (V.ref a))
structure Sim (K : PySem.W.Frag) (mg : Str → Option Value) (ea : EA) (io : List Addr) (Fr : Addr → Prop) (s : S) (σ : L2.St) (H : Hp) : Prop where
  len : s.r.length = σ.length
  g : GSim K mg io (FrO Fr s.r σ) s.G H
  val : ∀ (i : Nat) (w : W), s.r[i]? = some (.val w) → ∃ v, σ[i]? = some (some v) ∧ Rw K mg io (Mu io (FrO Fr s.r σ)) H w v
  own : ∀ (i : Nat) (c : Cell), s.r[i]? = some (.own c) → ∃ a o, σ[i]? = some (some (V.ref a)) ∧ H a = some o ∧ Rc K mg io (Mu io (FrO Fr s.r σ)) H c o ∧ ¬ Fr a
  dist : ∀ (i j : Nat) (c d : Cell) (a : Addr), s.r[i]? = some (.own c) → s.r[j]? = some (.own d) → σ[i]? = some (some (V.ref a)) → σ[j]? = some (some (V.ref a)) → i = j
  exc : ∀ (i : Nat) (x : Ex), s.r[i]? = some (.exc x) → σ[i]? = some (some (V.ref ea.a)) ∧ ExR K mg io (Mu io (FrO Fr s.r σ)) H x ea.cls ea.d

/-- a step of the heap: what callers may lean on -/
structure Stp (io : List Addr) (M : Addr → Prop) (Fr : Addr → Prop) (H : Hp) (io' : List Addr) (M' : Addr → Prop) (H' : Hp) : Prop where
  p : Pers io M H io' M' H'
  fr : ∀ a, Fr a → H' a = H a
  trk : ∀ a o, H a = some o → ∃ o', H' a = some o'
theorem Stp.refl {Fr : Addr → Prop} : Stp io M Fr H io M H := ⟨.refl, fun _ _ => rfl, fun _ o h => ⟨o, h⟩⟩
theorem Pers.trans {io2 : List Addr} {M2 : Addr → Prop} {H2 : Hp} (a : Pers io M H io' M' H') (b : Pers io' M' H' io2 M2 H2) (t : ∀ x o, H x = some o → ∃ o', H' x = some o') : Pers io M H io2 M2 H2 where
  keep := fun x o h hM => b.keep x o (a.keep x o h hM) (a.notin h hM)
  new := fun x h => by
    rcases b.new x h with q | q
    · exact a.new x q
    · refine .inr ?_
      cases e : H x with
      | none => rfl
      | some o =>
        obtain ⟨o', e'⟩ := t x o e
        rw [q] at e'; cases e'
  ext := fun n x h => b.ext n x (a.ext n x h)
theorem Stp.trans {Fr : Addr → Prop} {io2 : List Addr} {M2 : Addr → Prop} {H2 : Hp} (a : Stp io M Fr H io' M' H') (b : Stp io' M' Fr H' io2 M2 H2) : Stp io M Fr H io2 M2 H2 where
  p := a.p.trans b.p a.trk
  fr := fun x h => (b.fr x h).trans (a.fr x h)
  trk := fun x o h => let ⟨o', h'⟩ := a.trk x o h; b.trk x o' h'
end
end Z

set_option Elab.async false
set_option linter.all false
set_option maxRecDepth 100000
/-! Z2: the monad, what a reading refines, the judgements. -/
namespace Z
open PySem PySem.Spec PyProof.Rows L2

abbrev Mo (α : Type) := S → Option (Except Ex α × S)
inductive FV where
  | val (w : W)
  | own (c : Cell)
inductive Fl where
  | nx
  | bk
  | ct
  | rt (x : FV)
def ret {α : Type} (a : α) : Mo α := fun s => some (.ok a, s)
def stk {α : Type} : Mo α := fun _ => none
def raiseM {α : Type} (x : Ex) : Mo α := fun s => some (.error x, s)
def bnd {α β : Type} (m : Mo α) (f : α → Mo β) : Mo β := fun s => match m s with
  | none => none
  | some (.error x, s') => some (.error x, s')
  | some (.ok a, s') => f a s'
theorem bnd_some {α β : Type} {m : Mo α} {f : α → Mo β} {s : S} {r : Except Ex β} {s' : S} (h : bnd m f s = some (r, s')) :
    (∃ x, m s = some (.error x, s') ∧ r = .error x) ∨ ∃ a s1, m s = some (.ok a, s1) ∧ f a s1 = some (r, s') := by
  unfold bnd at h
  cases e : m s with
  | none => rw [e] at h; cases h
  | some p =>
    obtain ⟨q, s1⟩ := p
    rw [e] at h
    cases q with
    | error x =>
      have h' : some ((Except.error x : Except Ex β), s1) = some (r, s') := h
      cases h'
      exact .inl ⟨x, rfl, rfl⟩
    | ok a => exact .inr ⟨a, s1, rfl, h⟩
theorem bnd_ret {α β : Type} (a : α) (f : α → Mo β) : bnd (ret a) f = f a := rfl
theorem ret_bnd {α β : Type} (a : α) (f : α → Mo β) (s : S) : bnd (ret a) f s = f a s := rfl
theorem bnd_at {α β : Type} {m : Mo α} {f : α → Mo β} {s s1 : S} {a : α} (h : m s = some (.ok a, s1)) : bnd m f s = f a s1 := by
  unfold bnd; rw [h]

section
variable (K : PySem.W.Frag) (mg : Str → Option Value)
def pls (Fr : Addr → Prop) (a : Addr) : Addr → Prop := fun b => Fr b ∨ b = a
/-- all that may change -/
def Ms (io : List Addr) (Fr : Addr → Prop) (s : S) (σ : L2.St) : Addr → Prop := Mu io (FrO Fr s.r σ)
def PostE (ea : EA) (io : List Addr) (Fr : Addr → Prop) (s : S) (σ : L2.St) (H : Hp) (s' : S) (io' : List Addr) (H' : Hp) : RV → V → Prop
  | .val w, v => Sim K mg ea io' Fr s' σ H' ∧ Stp io (Ms io Fr s σ) Fr H io' (Ms io' Fr s' σ) H' ∧ Rw K mg io' (Ms io' Fr s' σ) H' w v
  | .hnd i, v => Sim K mg ea io' Fr s' σ H' ∧ Stp io (Ms io Fr s σ) Fr H io' (Ms io' Fr s' σ) H' ∧ σ[i]? = some (some v)
  | .own c, v => ∃ a o, v = .ref a ∧ H' a = some o ∧ ¬ FrO Fr s'.r σ a ∧ Sim K mg ea io' (pls Fr a) s' σ H' ∧ Stp io (Ms io Fr s σ) Fr H io' (Ms io' (pls Fr a) s' σ) H' ∧ Rc K mg io' (Ms io' (pls Fr a) s' σ) H' c o
def PostX (ea : EA) (io : List Addr) (Fr : Addr → Prop) (s : S) (σ : L2.St) (H : Hp) (s' : S) (σ' : L2.St) (io' : List Addr) (H' : Hp) (x : Ex) (cls : Value) (d : Option Addr) : Prop :=
  Sim K mg ea io' Fr s' σ' H' ∧ Stp io (Ms io Fr s σ) Fr H io' (Ms io' Fr s' σ') H' ∧ ExR K mg io' (Ms io' Fr s' σ') H' x cls d
def PostS (ea : EA) (io : List Addr) (Fr : Addr → Prop) (s : S) (σ : L2.St) (H : Hp) (s' : S) (σ' : L2.St) (io' : List Addr) (H' : Hp) : Prop :=
  Sim K mg ea io' Fr s' σ' H' ∧ Stp io (Ms io Fr s σ) Fr H io' (Ms io' Fr s' σ') H'
def PostF (io : List Addr) (M Fr : Addr → Prop) (H : Hp) (G' : List Cell) (io' : List Addr) (H' : Hp) : FV → V → Prop
  | .val w, v => GSim K mg io' Fr G' H' ∧ Stp io M Fr H io' (Mu io' Fr) H' ∧ Rw K mg io' (Mu io' Fr) H' w v
  | .own c, v => ∃ a o, v = .ref a ∧ H' a = some o ∧ ¬ Fr a ∧ GSim K mg io' (pls Fr a) G' H' ∧ Stp io M Fr H io' (Mu io' (pls Fr a)) H' ∧ Rc K mg io' (Mu io' (pls Fr a)) H' c o
def RvR (io : List Addr) (M : Addr → Prop) (σ : L2.St) (H : Hp) : RV → V → Prop
  | .val w, v => Rw K mg io M H w v
  | .hnd i, v => σ[i]? = some (some v)
  | .own _, _ => False
/-- readable now as w -/
def Rn (io : List Addr) (M : Addr → Prop) (H : Hp) (w : W) (v : V) : Prop := Rw K mg io M H w v ∨ ∃ c o a, w = Cell.toW c ∧ v = .ref a ∧ H a = some o ∧ Rc K mg io M H c o

variable (ea : EA) (Wx : WX)
def RefE (t : TE) (m : Mo RV) : Prop := ∀ (σ : L2.St) (H : Hp) (io : List Addr) (Fr : Addr → Prop) (s : S), Sim K mg ea io Fr s σ H → ∀ r s', m s = some (r, s') → ∀ Q : VK,
  (∀ x, r = .ok x → ∀ v H' io', PostE K mg ea io Fr s σ H s' io' H' x v → Q v H') → (∀ x, r = .error x → ∀ cls d H' io', PostX K mg ea io Fr s σ H s' σ io' H' x cls d → Wx cls d σ H') → t σ H Q
def RefT (t : TT) (m : Mo Bool) : Prop := ∀ (σ : L2.St) (H : Hp) (io : List Addr) (Fr : Addr → Prop) (s : S), Sim K mg ea io Fr s σ H → ∀ r s', m s = some (r, s') → ∀ Q : Bool → Hp → Prop,
  (∀ b, r = .ok b → ∀ H' io', PostS K mg ea io Fr s σ H s' σ io' H' → Q b H') → (∀ x, r = .error x → ∀ cls d H' io', PostX K mg ea io Fr s σ H s' σ io' H' x cls d → Wx cls d σ H') → t σ H Q
def RefA (t : TA) (m : Mo (List RV)) : Prop := ∀ (σ : L2.St) (H : Hp) (io : List Addr) (Fr : Addr → Prop) (s : S), Sim K mg ea io Fr s σ H → ∀ r s', m s = some (r, s') → ∀ Q : List V → Hp → Prop,
  (∀ xs, r = .ok xs → ∀ vs H' io', PostS K mg ea io Fr s σ H s' σ io' H' → Paired (RvR K mg io' (Ms io' Fr s' σ) σ H') xs vs → Q vs H') → (∀ x, r = .error x → ∀ cls d H' io', PostX K mg ea io Fr s σ H s' σ io' H' x cls d → Wx cls d σ H') → t σ H Q
def RefS (t : TS) (m : Mo Fl) : Prop := ∀ (σ : L2.St) (H : Hp) (io : List Addr) (Fr : Addr → Prop) (s : S), Sim K mg ea io Fr s σ H → ∀ r s', m s = some (r, s') → ∀ D : Ends,
  (r = .ok .nx → ∀ σ' H' io', PostS K mg ea io Fr s σ H s' σ' io' H' → D.nx σ' H') → (r = .ok .bk → ∀ σ' H' io', PostS K mg ea io Fr s σ H s' σ' io' H' → D.bk σ' H') →
  (r = .ok .ct → ∀ σ' H' io', PostS K mg ea io Fr s σ H s' σ' io' H' → D.ct σ' H') → (∀ f, r = .ok (.rt f) → ∀ v H' io', PostF K mg io (Ms io Fr s σ) Fr H s'.G io' H' f v → D.rt v H') →
  (∀ x, r = .error x → ∀ cls d σ' H' io', PostX K mg ea io Fr s σ H s' σ' io' H' x cls d → Wx cls d σ' H') → t D σ H
end

structure Pee (X : Cx) (ea : EA) (Wx : WX) (e : Expr) (m : Mo RV) : Prop where
  ex : ∃ t, PE X e t ∧ RefE X.K X.mg ea Wx t m
structure Pet (X : Cx) (ea : EA) (Wx : WX) (e : Expr) (m : Mo Bool) : Prop where
  ex : ∃ t, PT X e t ∧ RefT X.K X.mg ea Wx t m
structure Pew (X : Cx) (ea : EA) (Wx : WX) (e : Expr) (m : Mo Bool) : Prop where
  ex : ∃ t, PW X e t ∧ RefT X.K X.mg ea Wx t m
structure Pea (X : Cx) (ea : EA) (Wx : WX) (es : List Expr) (m : Mo (List RV)) : Prop where
  ex : ∃ t, PA X es t ∧ RefA X.K X.mg ea Wx t m
structure Pes (X : Cx) (ea : EA) (Wx : WX) (st : Stmt) (m : Mo Fl) : Prop where
  ex : ∃ t, PS X st t ∧ RefS X.K X.mg ea Wx t m
structure Pess (X : Cx) (ea : EA) (Wx : WX) (st : List Stmt) (m : Mo Fl) : Prop where
  ex : ∃ t, PSs X st t ∧ RefS X.K X.mg ea Wx t m

section
variable {K : PySem.W.Frag} {mg : Str → Option Value} {ea : EA} {io io' : List Addr} {Fr Fr' : Addr → Prop} {s s' : S} {σ σ' : L2.St} {H H' : Hp} {w : W} {v : V} {c : Cell} {o : HO} {a : Addr}

theorem FrO.mono {r : List SV} (h : ∀ b, Fr' b → Fr b) : ∀ b, FrO Fr' r σ b → FrO Fr r σ b := fun b z => z.imp (h b) id
theorem Ms.mono (h : ∀ b, Fr' b → Fr b) : ∀ b, Ms io Fr' s σ b → Ms io Fr s σ b := fun b z => z.imp id (FrO.mono h b)
theorem pls.sub : ∀ b, Fr b → pls Fr a b := fun _ z => .inl z
theorem Ms.pls_sub : ∀ b, Ms io Fr s σ b → Ms io (pls Fr a) s σ b := Ms.mono pls.sub
/-- fewer frozen frames -/
theorem GSim.less (g : GSim K mg io Fr s.G H) (h : ∀ b, Fr' b → Fr b) : GSim K mg io Fr' s.G H where
  len := g.len
  cell := fun n a c h1 h2 => let ⟨o, e, q⟩ := g.cell n a c h1 h2; ⟨o, e, q.pers (.less fun b z => z.imp id (h b))⟩
  nd := g.nd
  dj := fun a ha z => g.dj a ha (h a z)
  fr := fun a z => g.fr a (h a z)
theorem Sim.less (x : Sim K mg ea io Fr s σ H) (h : ∀ b, Fr' b → Fr b) : Sim K mg ea io Fr' s σ H where
  len := x.len
  g := x.g.less (FrO.mono h)
  val := fun i w e => let ⟨v, q1, q2⟩ := x.val i w e; ⟨v, q1, q2.pers (.less (Ms.mono h))⟩
  own := fun i c e => let ⟨a, o, q1, q2, q3, q4⟩ := x.own i c e; ⟨a, o, q1, q2, q3.pers (.less (Ms.mono h)), fun z => q4 (h a z)⟩
  dist := x.dist
  exc := fun i e q => let ⟨h1, h2⟩ := x.exc i e q; ⟨h1, h2.pers (.less (Ms.mono h))⟩
theorem Stp.less {M M' M2 : Addr → Prop} (x : Stp io M Fr H io' M' H') (h : ∀ b, M2 b → M' b) : Stp io M Fr H io' M2 H' := ⟨⟨x.p.keep, fun a z => x.p.new a (h a z), x.p.ext⟩, x.fr, x.trk⟩
theorem Rn.of (h : Rw K mg io (Ms io Fr s σ) H w v) : Rn K mg io (Ms io Fr s σ) H w v := .inl h

/-- the settled form of a result: nothing owned is in the air -/
@[simp] def settle : RV → RV
  | .own c => .val c.toW
  | x => x
theorem PostE.settled {x : RV} (h : PostE K mg ea io Fr s σ H s' io' H' x v) : Sim K mg ea io' Fr s' σ H' ∧ Stp io (Ms io Fr s σ) Fr H io' (Ms io' Fr s' σ) H' ∧ RvR K mg io' (Ms io' Fr s' σ) σ H' (settle x) v := by
  cases x with
  | val w => exact h
  | hnd i => exact h
  | own c =>
    obtain ⟨a, o, rfl, ha, hn, S, T, R⟩ := h
    refine ⟨S.less pls.sub, T.less Ms.pls_sub, ?_⟩
    have ni : a ∉ io' := fun z => S.g.dj a z (.inl (.inr rfl))
    exact (R.pers (.less Ms.pls_sub)).froze ha fun z => z.elim ni hn
/-- what is read now of a result -/
def derefW (s : S) : W → Option W
  | .ref n => (s.G[n]?).map Cell.toW
  | w => some w
def look : RV → Mo W
  | .val w => fun s => (derefW s w).map fun z => (.ok z, s)
  | .own c => ret c.toW
  | .hnd i => fun s => match s.r[i]? with
    | some (.own c) => some (.ok c.toW, s)
    | some (.val w) => (derefW s w).map fun z => (.ok z, s)
    | _ => none
theorem deref_ok (S : Sim K mg ea io Fr s σ H) (h : Rw K mg io (Ms io Fr s σ) H w v) {z : W} (e : derefW s w = some z) : Rn K mg io (Ms io Fr s σ) H z v := by
  cases w with
  | ref n =>
    simp only [derefW, Option.map_eq_some_iff] at e
    obtain ⟨c, e1, rfl⟩ := e
    cases h with
    | ref h =>
      obtain ⟨o, ho, hc⟩ := S.g.cell n _ c h e1
      exact .inr ⟨c, o, _, rfl, rfl, ho, hc⟩
  | _ => simp only [derefW, Option.some.injEq] at e; subst e; exact .inl h
theorem look_ok (S : Sim K mg ea io Fr s σ H) {x : RV} (h : RvR K mg io (Ms io Fr s σ) σ H x v) {r : Except Ex W} (e : look x s = some (r, s')) : s' = s ∧ ∃ z, r = .ok z ∧ Rn K mg io (Ms io Fr s σ) H z v := by
  cases x with
  | own c => exact h.elim
  | val w =>
    simp only [look, Option.map_eq_some_iff] at e
    obtain ⟨z, e1, e2⟩ := e
    cases e2
    exact ⟨rfl, z, rfl, deref_ok S h e1⟩
  | hnd i =>
    have h' : σ[i]? = some (some v) := h
    simp only [look] at e
    split at e
    · rename_i c q
      cases e
      obtain ⟨a, o, h1, h2, h3, h4⟩ := S.own i c q
      rw [h'] at h1
      cases h1
      exact ⟨rfl, _, rfl, .inr ⟨c, o, a, rfl, rfl, h2, h3⟩⟩
    · rename_i w q
      simp only [Option.map_eq_some_iff] at e
      obtain ⟨z, e1, e2⟩ := e
      cases e2
      obtain ⟨u, h1, h2⟩ := S.val i w q
      rw [h'] at h1
      cases h1
      exact ⟨rfl, z, rfl, deref_ok S h2 e1⟩
    · cases e
/-- an owned slot is let go -/
def freeze : RV → Mo W
  | .val w => ret w
  | .own c => ret c.toW
  | .hnd i => fun s => match s.r[i]? with
    | some (.own c) => some (.ok c.toW, { s with r := s.r.set i (.val c.toW) })
    | some (.val w) => some (.ok w, s)
    | _ => none
theorem get_lt {α : Type} {l : List α} {i : Nat} {x : α} (h : l[i]? = some x) : i < l.length := by
  rcases Nat.lt_or_ge i l.length with q | q
  · exact q
  · rw [List.getElem?_eq_none_iff.mpr q] at h; cases h
theorem FrO.froze {r : List SV} {i : Nat} {w : W} : ∀ b, FrO Fr (r.set i (.val w)) σ b → FrO Fr r σ b := fun b z => z.imp id fun ⟨j, d, h1, h2⟩ => by
  by_cases e : i = j
  · subst e
    have := get_lt h1
    rw [List.getElem?_set_self (by simpa using this)] at h1
    cases h1
  · rw [List.getElem?_set_ne e] at h1
    exact ⟨j, d, h1, h2⟩
theorem Sim.freeze {i : Nat} (x : Sim K mg ea io Fr s σ H) (e : s.r[i]? = some (.own c)) : Sim K mg ea io Fr { s with r := s.r.set i (.val c.toW) } σ H ∧ ∀ v, σ[i]? = some (some v) → Rw K mg io (Ms io Fr { s with r := s.r.set i (.val c.toW) } σ) H c.toW v := by
  have hi := get_lt e
  obtain ⟨a, o, h1, h2, h3, h4⟩ := x.own i c e
  have le : ∀ b, Ms io Fr { s with r := s.r.set i (.val c.toW) } σ b → Ms io Fr s σ b := fun b z => z.imp id (FrO.froze b)
  have nm : ¬ Ms io Fr { s with r := s.r.set i (.val c.toW) } σ a := fun z => by
    rcases z with z | z | ⟨j, d, q1, q2⟩
    · exact x.g.dj a z (.inr ⟨i, c, e, h1⟩)
    · exact h4 z
    · by_cases ij : i = j
      · subst ij
        rw [List.getElem?_set_self hi] at q1
        cases q1
      · rw [List.getElem?_set_ne ij] at q1
        exact ij (x.dist i j c d a e q1 h1 q2)
  have fz : Rw K mg io (Ms io Fr { s with r := s.r.set i (.val c.toW) } σ) H c.toW (.ref a) := (h3.pers (.less le)).froze h2 nm
  refine ⟨⟨by simpa using x.len, x.g.less (s := s) (FrO.froze), fun j w q => ?_, fun j d q => ?_, fun j k d d' b q1 q2 => ?_, fun j y q => ?_⟩, fun v hv => ?_⟩
  · by_cases ij : i = j
    · subst ij
      rw [List.getElem?_set_self hi] at q
      cases q
      exact ⟨_, h1, fz⟩
    · rw [List.getElem?_set_ne ij] at q
      obtain ⟨v, q1, q2⟩ := x.val j w q
      exact ⟨v, q1, q2.pers (.less le)⟩
  · by_cases ij : i = j
    · subst ij
      rw [List.getElem?_set_self hi] at q
      cases q
    · rw [List.getElem?_set_ne ij] at q
      obtain ⟨b, p, q1, q2, q3, q4⟩ := x.own j d q
      exact ⟨b, p, q1, q2, q3.pers (.less le), q4⟩
  · by_cases ij : i = j
    · subst ij
      rw [List.getElem?_set_self hi] at q1
      cases q1
    · by_cases ik : i = k
      · subst ik
        rw [List.getElem?_set_self hi] at q2
        cases q2
      · rw [List.getElem?_set_ne ij] at q1
        rw [List.getElem?_set_ne ik] at q2
        exact x.dist j k d d' b q1 q2
  · by_cases ij : i = j
    · subst ij
      rw [List.getElem?_set_self hi] at q
      cases q
    · rw [List.getElem?_set_ne ij] at q
      obtain ⟨h1, h2⟩ := x.exc j y q
      exact ⟨h1, h2.pers (.less le)⟩
  · rw [h1] at hv
    cases hv
    exact fz
theorem freeze_ok (S : Sim K mg ea io Fr s σ H) {x : RV} (h : RvR K mg io (Ms io Fr s σ) σ H x v) {r : Except Ex W} (e : freeze x s = some (r, s')) : s'.G = s.G ∧ (∀ b, Ms io Fr s' σ b → Ms io Fr s σ b) ∧ Sim K mg ea io Fr s' σ H ∧ ∃ z, r = .ok z ∧ Rw K mg io (Ms io Fr s' σ) H z v := by
  cases x with
  | own c => exact h.elim
  | val w => cases e; exact ⟨rfl, fun _ z => z, S, w, rfl, h⟩
  | hnd i =>
    have h' : σ[i]? = some (some v) := h
    simp only [Z.freeze] at e
    split at e
    · rename_i c q
      cases e
      obtain ⟨S', f⟩ := S.freeze q
      exact ⟨rfl, fun b z => z.imp id (FrO.froze b), S', _, rfl, f v h'⟩
    · rename_i w q
      cases e
      obtain ⟨u, h1, h2⟩ := S.val i w q
      rw [h'] at h1
      cases h1
      exact ⟨rfl, fun _ z => z, S, w, rfl, h2⟩
    · cases e
theorem RvR.pers {x : RV} {M M' : Addr → Prop} (p : Pers io M H io' M' H') (h : RvR K mg io M σ H x v) : RvR K mg io' M' σ H' x v := by
  cases x with
  | own c => exact h
  | val w => exact Rw.pers p h
  | hnd i => exact h
theorem Sim.refl_stp : Stp io (Ms io Fr s σ) Fr H io (Ms io Fr s σ) H := Stp.refl
end
end Z

set_option Elab.async false
set_option linter.all false
set_option maxRecDepth 100000
/-! Z3: moves of the state; operators, tests, simple statements. -/
namespace Z
open PySem PySem.Spec PyProof.Rows L2
section
variable {K : PySem.W.Frag} {mg : Str → Option Value} {ea : EA} {io io' : List Addr} {Fr Fr' : Addr → Prop} {s s' s2 : S} {σ σ' : L2.St} {H H' : Hp} {w : W} {v : V} {c : Cell} {o : HO} {a p : Addr}

theorem Sim.trkN (x : Sim K mg ea io Fr s σ H) (h : Ms io Fr s σ a) : ∃ o, H a = some o ∧ Nt o := by
  rcases h with h | h
  · obtain ⟨n, hn⟩ := List.mem_iff_getElem?.mp h
    have hl := get_lt hn
    rw [x.g.len] at hl
    obtain ⟨o, e, r⟩ := x.g.cell n a s.G[n] hn (by simp [hl])
    exact ⟨o, e, r.nt⟩
  · exact x.g.fr a h
theorem Sim.trk (x : Sim K mg ea io Fr s σ H) (h : Ms io Fr s σ a) : ∃ o, H a = some o := let ⟨o, e, _⟩ := x.trkN h; ⟨o, e⟩
theorem Sim.move (x : Sim K mg ea io Fr s σ H) (q : Pers io (Ms io Fr s σ) H io (Ms io Fr' s σ) H') (same : ∀ a, Ms io Fr s σ a → H' a = H a)
    (dj : ∀ a, Fr' a → a ∉ io) (dj2 : ∀ a (i : Nat) c, Fr' a → s.r[i]? = some (.own c) → σ[i]? = some (some (V.ref a)) → False) (tr : ∀ a, Fr' a → ∃ o, H' a = some o ∧ Nt o) : Sim K mg ea io Fr' s σ H' where
  len := x.len
  g := ⟨x.g.len, fun n a c h1 h2 => by
      obtain ⟨o, e, r⟩ := x.g.cell n a c h1 h2
      exact ⟨o, by rw [same a (.inl (List.mem_of_getElem? h1))]; exact e, r.pers q⟩,
    x.g.nd, fun a ha z => by
      rcases z with z | z
      · exact dj a z ha
      · exact x.g.dj a ha (.inr z), fun a z => by
      rcases z with z | ⟨i, c, h1, h2⟩
      · exact tr a z
      · obtain ⟨b, o, q1, q2, q3, _⟩ := x.own i c h1
        rw [h2] at q1; cases q1
        exact ⟨o, by rw [same a (.inr (.inr ⟨i, c, h1, h2⟩))]; exact q2, q3.nt⟩⟩
  val := fun i w e => let ⟨v, q1, q2⟩ := x.val i w e; ⟨v, q1, q2.pers q⟩
  own := fun i c e => by
    obtain ⟨a, o, q1, q2, q3, _⟩ := x.own i c e
    exact ⟨a, o, q1, by rw [same a (.inr (.inr ⟨i, c, e, q1⟩))]; exact q2, q3.pers q, fun z => dj2 a i c z e q1⟩
  dist := x.dist
  exc := fun i e k => let ⟨h1, h2⟩ := x.exc i e k; ⟨h1, h2.pers q⟩
theorem Sim.laid (x : Sim K mg ea io Fr s σ H) (hp : H p = none) : Sim K mg ea io Fr s σ (upd H p o) ∧ Stp io (Ms io Fr s σ) Fr H io (Ms io Fr s σ) (upd H p o) := by
  have ne : ∀ b u, H b = some u → upd H p o b = some u := fun b u e => by rw [upd_ne (ne_of_none e hp)]; exact e
  have same : ∀ b, Ms io Fr s σ b → upd H p o b = H b := fun b z => by
    obtain ⟨u, e⟩ := x.trk z
    rw [ne b u e, e]
  have q : Pers io (Ms io Fr s σ) H io (Ms io Fr s σ) (upd H p o) := ⟨fun b u e _ => ne b u e, fun b z => .inl z, fun _ _ e => e⟩
  refine ⟨x.move q same (fun b z h => x.g.dj b h (.inl z)) (fun b i c z h1 h2 => ?_) (fun b z => ?_), q, fun b z => same b (.inr (.inl z)), fun b u e => ⟨u, ne b u e⟩⟩
  · obtain ⟨a', o', q1, _, _, q4⟩ := x.own i c h1
    rw [h2] at q1; cases q1
    exact q4 z
  · obtain ⟨u, e, n⟩ := x.trkN (a := b) (.inr (.inl z))
    exact ⟨u, ne b u e, n⟩
theorem Sim.alloc (x : Sim K mg ea io Fr s σ H) (hp : H p = none) (hN : Nt o := by intro _ z; cases z) : Sim K mg ea io (pls Fr p) s σ (upd H p o) ∧ Stp io (Ms io Fr s σ) Fr H io (Ms io (pls Fr p) s σ) (upd H p o) ∧ ¬ FrO Fr s.r σ p := by
  have ne : ∀ b u, H b = some u → upd H p o b = some u := fun b u e => by rw [upd_ne (ne_of_none e hp)]; exact e
  have same : ∀ b, Ms io Fr s σ b → upd H p o b = H b := fun b z => by
    obtain ⟨u, e⟩ := x.trk z
    rw [ne b u e, e]
  have nM : ¬ Ms io Fr s σ p := fun z => by
    obtain ⟨u, e⟩ := x.trk z
    rw [hp] at e; cases e
  have q : Pers io (Ms io Fr s σ) H io (Ms io (pls Fr p) s σ) (upd H p o) := ⟨fun b u e _ => ne b u e, fun b z => by
    rcases z with z | (z | z) | z
    · exact .inl (.inl z)
    · exact .inl (.inr (.inl z))
    · exact .inr (by rw [z]; exact hp)
    · exact .inl (.inr (.inr z)), fun _ _ e => e⟩
  refine ⟨x.move q same (fun b z h => ?_) (fun b i c z h1 h2 => ?_) (fun b z => ?_), ⟨q, fun b z => same b (.inr (.inl z)), fun b u e => ⟨u, ne b u e⟩⟩, fun z => nM (.inr z)⟩
  · rcases z with z | z
    · exact x.g.dj b h (.inl z)
    · exact nM (.inl (z ▸ h))
  · obtain ⟨a', o', q1, _, _, q4⟩ := x.own i c h1
    rw [h2] at q1; cases q1
    rcases z with z | z
    · exact q4 z
    · exact nM (.inr (.inr ⟨i, c, h1, z ▸ h2⟩))
  · rcases z with z | z
    · obtain ⟨u, e, n⟩ := x.trkN (a := b) (.inr (.inl z))
      exact ⟨u, ne b u e, n⟩
    · exact ⟨o, by rw [z, upd_same], hN⟩
theorem Stp.frless {M M' : Addr → Prop} (x : Stp io M Fr H io' M' H') (h : ∀ b, Fr' b → Fr b) : Stp io M Fr' H io' M' H' := ⟨x.p, fun a z => x.fr a (h a z), x.trk⟩
/-- behind a call -/
theorem Sim.call {G' : List Cell} (x : Sim K mg ea io Fr s σ H) (g : GSim K mg io' (FrO Fr' s.r σ) G' H') (T : Stp io (Ms io Fr s σ) (FrO Fr s.r σ) H io' (Mu io' (FrO Fr' s.r σ)) H')
    (n : ∀ a (i : Nat) c, s.r[i]? = some (.own c) → σ[i]? = some (some (V.ref a)) → ¬ Fr' a) : Sim K mg ea io' Fr' { s with G := G' } σ H' where
  len := x.len
  g := g
  val := fun i w e => let ⟨v, q1, q2⟩ := x.val i w e; ⟨v, q1, q2.pers T.p⟩
  own := fun i c e => by
    obtain ⟨a, o, q1, q2, q3, _⟩ := x.own i c e
    exact ⟨a, o, q1, by rw [T.fr a (.inr ⟨i, c, e, q1⟩)]; exact q2, q3.pers T.p, n a i c e q1⟩
  dist := x.dist
  exc := fun i e k => let ⟨h1, h2⟩ := x.exc i e k; ⟨h1, h2.pers T.p⟩

/-! ### operations on values -/
inductive OR where
  | imm (w : W)
  | newl (ws : List W)
  | newt (ws : List W)
@[simp] def OR.toRV : OR → RV
  | .imm w => .val w
  | .newl ws => .own (.lst ws)
  | .newt ws => .val (.tup ws)
def OQ (K : PySem.W.Frag) (mg : Str → Option Value) (io : List Addr) (M : Addr → Prop) (H : Hp) (z : OR) (Q : VK) : Prop := match z with
  | .imm w => ∀ v, Rw K mg io M H w v → Q v H
  | .newl ws => ∀ p vs, H p = none → Rws K mg io M H ws vs → Q (.ref p) (upd H p (.lst vs))
  | .newt ws => ∀ p vs, H p = none → Rws K mg io M H ws vs → Q (.ref p) (upd H p (.tup vs))
theorem OQ.post {z : OR} (x : Sim K mg ea io' Fr s2 σ H') (T : Stp io (Ms io Fr s σ) Fr H io' (Ms io' Fr s2 σ) H') {Q : VK}
    (hok : ∀ v H2 io2, PostE K mg ea io Fr s σ H s2 io2 H2 z.toRV v → Q v H2) : OQ K mg io' (Ms io' Fr s2 σ) H' z Q := by
  cases z with
  | imm w => exact fun v r => hok v _ _ ⟨x, T, r⟩
  | newl ws =>
    intro p vs hp r
    obtain ⟨S, T2, nf⟩ := x.alloc (o := .lst vs) hp
    exact hok _ _ _ ⟨p, .lst vs, rfl, upd_same, nf, S, T.trans T2, vs, rfl, r.pers T2.p⟩
  | newt ws =>
    intro p vs hp r
    obtain ⟨S, T2⟩ := x.laid (o := .tup vs) hp
    have r' := r.pers T2.p
    refine hok _ _ _ ⟨S, T.trans T2, .tup (.inl ⟨upd_same, fun z => ?_⟩) r'.1 r'.2⟩
    obtain ⟨u, e⟩ := x.trk z
    rw [hp] at e; cases e
def OpM (X : Cx) (g : Value → Value → Sem Value) (f : W → W → Option OR) : Prop :=
  ∃ r : R2, OpR X g r ∧ ∀ io M H x y vx vy z Q, Rn X.K X.mg io M H x vx → Rn X.K X.mg io M H y vy → f x y = some z → OQ X.K X.mg io M H z Q → r vx vy H Q
def UnM (X : Cx) (g : Value → Sem Value) (f : W → Option OR) : Prop :=
  ∃ r : V → Hp → VK → Prop, UnR X g r ∧ ∀ io M H x vx z Q, Rn X.K X.mg io M H x vx → f x = some z → OQ X.K X.mg io M H z Q → r vx H Q
def orf {α β γ : Type} (f g : α → β → Option γ) : α → β → Option γ := fun x y => match f x y with
  | some z => some z
  | none => g x y
theorem OpM.or {X : Cx} {g : Value → Value → Sem Value} {f f' : W → W → Option OR} (h : OpM X g f) (h' : OpM X g f') : OpM X g (orf f f') := by
  obtain ⟨r, a, b⟩ := h
  obtain ⟨r', a', b'⟩ := h'
  refine ⟨_, a.or a', fun io M H x y vx vy z Q rx ry e q => ?_⟩
  unfold orf at e
  cases k : f x y with
  | some z' =>
    rw [k] at e
    cases e
    exact .inl (b io M H x y vx vy z Q rx ry k q)
  | none =>
    rw [k] at e
    exact .inr (b' io M H x y vx vy z Q rx ry e q)

def liftO (z : Option OR) : Mo RV := match z with
  | some z => ret z.toRV
  | none => stk
def opM (f : W → W → Option OR) (x y : RV) : Mo RV := bnd (look x) fun wx => bnd (look y) fun wy => liftO (f wx wy)
def mBin (f : W → W → Option OR) (ma mb : Mo RV) : Mo RV := bnd ma fun x => bnd mb fun y => opM f (settle x) (settle y)
def mUn (f : W → Option OR) (ma : Mo RV) : Mo RV := bnd ma fun x => bnd (look (settle x)) fun wx => liftO (f wx)
theorem liftO_some {z : Option OR} {r : Except Ex RV} (h : liftO z s = some (r, s')) : s' = s ∧ ∃ u, z = some u ∧ r = .ok u.toRV := by
  cases z with
  | none => cases h
  | some u => cases h; exact ⟨rfl, u, rfl, rfl⟩

section
variable {Wx : WX} {ta tb tc : TE} {ma mb mc : Mo RV}
/-- two results, one behind the other, settled -/
theorem bin2 (ha : RefE K mg ea Wx ta ma) (hb : RefE K mg ea Wx tb mb) (S0 : Sim K mg ea io Fr s σ H) {α : Type} {f : RV → RV → Mo α} {r : Except Ex α}
    (e : bnd ma (fun x => bnd mb fun y => f (settle x) (settle y)) s = some (r, s'))
    (hex : ∀ x, r = .error x → ∀ cls d H' io', PostX K mg ea io Fr s σ H s' σ io' H' x cls d → Wx cls d σ H')
    {R : V → V → Hp → Prop} (hR : ∀ x y s2 vx vy H2 io2, f x y s2 = some (r, s') → Sim K mg ea io2 Fr s2 σ H2 → Stp io (Ms io Fr s σ) Fr H io2 (Ms io2 Fr s2 σ) H2 →
      RvR K mg io2 (Ms io2 Fr s2 σ) σ H2 x vx → RvR K mg io2 (Ms io2 Fr s2 σ) σ H2 y vy → R vx vy H2) : ta σ H fun x H1 => tb σ H1 fun y H2 => R x y H2 := by
  rcases bnd_some e with ⟨x, e1, rfl⟩ | ⟨x, s1, e1, e2⟩
  · exact ha σ H io Fr s S0 _ _ e1 _ (fun _ q => by cases q) fun x' q cls d H' io' px => by
      cases q
      exact hex _ rfl cls d H' io' px
  · refine ha σ H io Fr s S0 _ _ e1 _ (fun x' q vx H1 io1 px => ?_) (fun _ q => by cases q)
    cases q
    obtain ⟨S1, T1, R1⟩ := px.settled
    rcases bnd_some e2 with ⟨y, e3, rfl⟩ | ⟨y, s2, e3, e4⟩
    · exact hb σ H1 io1 Fr s1 S1 _ _ e3 _ (fun _ q => by cases q) fun x' q cls d H' io' py => by
        cases q
        exact hex _ rfl cls d H' io' ⟨py.1, T1.trans py.2.1, py.2.2⟩
    · refine hb σ H1 io1 Fr s1 S1 _ _ e3 _ (fun y' q vy H2 io2 py => ?_) (fun _ q => by cases q)
      cases q
      obtain ⟨S2, T2, R2⟩ := py.settled
      exact hR _ _ s2 vx vy H2 io2 e4 S2 (T1.trans T2) (R1.pers T2.p) R2
theorem ref_op {X : Cx} {g : Value → Value → Sem Value} {f : W → W → Option OR} {r : R2} (hr : ∀ io M H x y vx vy z Q, Rn K mg io M H x vx → Rn K mg io M H y vy → f x y = some z → OQ K mg io M H z Q → r vx vy H Q)
    (ha : RefE K mg ea Wx ta ma) (hb : RefE K mg ea Wx tb mb) : RefE K mg ea Wx (tOp r ta tb) (mBin f ma mb) := by
  intro σ H io Fr s S0 r0 s' e Q hok hex
  refine bin2 ha hb S0 e hex fun x y s2 vx vy H2 io2 e4 S2 T2 rx ry => ?_
  rcases bnd_some e4 with ⟨z, e5, rfl⟩ | ⟨wx, s3, e5, e6⟩
  · obtain ⟨_, _, q, _⟩ := look_ok S2 rx e5
    cases q
  · obtain ⟨rfl, wx', q, nx⟩ := look_ok S2 rx e5
    cases q
    rcases bnd_some e6 with ⟨z, e7, rfl⟩ | ⟨wy, s4, e7, e8⟩
    · obtain ⟨_, _, q, _⟩ := look_ok S2 ry e7
      cases q
    · obtain ⟨rfl, wy', q, ny⟩ := look_ok S2 ry e7
      cases q
      obtain ⟨rfl, u, hu, rfl⟩ := liftO_some e8
      exact hr _ _ _ _ _ _ _ _ _ nx ny hu (OQ.post S2 T2 fun v H3 io3 px => hok _ rfl v H3 io3 px)
theorem ref_un {f : W → Option OR} {r : V → Hp → VK → Prop} (hr : ∀ io M H x vx z Q, Rn K mg io M H x vx → f x = some z → OQ K mg io M H z Q → r vx H Q)
    (ha : RefE K mg ea Wx ta ma) : RefE K mg ea Wx (tUn r ta) (mUn f ma) := by
  intro σ H io Fr s S0 r0 s' e Q hok hex
  rcases bnd_some e with ⟨x, e1, rfl⟩ | ⟨x, s1, e1, e2⟩
  · exact ha σ H io Fr s S0 _ _ e1 _ (fun _ q => by cases q) fun x' q cls d H' io' px => by
      cases q
      exact hex _ rfl cls d H' io' px
  · refine ha σ H io Fr s S0 _ _ e1 _ (fun x' q vx H1 io1 px => ?_) (fun _ q => by cases q)
    cases q
    obtain ⟨S1, T1, R1⟩ := px.settled
    rcases bnd_some e2 with ⟨z, e5, rfl⟩ | ⟨wx, s3, e5, e6⟩
    · obtain ⟨_, _, q, _⟩ := look_ok S1 R1 e5
      cases q
    · obtain ⟨rfl, wx', q, nx⟩ := look_ok S1 R1 e5
      cases q
      obtain ⟨rfl, u, hu, rfl⟩ := liftO_some e6
      exact hr _ _ _ _ _ _ _ nx hu (OQ.post S1 T1 fun v H3 io3 px => hok _ rfl v H3 io3 px)
end

/-! ### names, constants -/
def mName (i : Nat) : Mo RV := fun s => match s.r[i]? with
  | some (.val w) => some (.ok (.val w), s)
  | some (.own _) => some (.ok (.hnd i), s)
  | _ => none
def mC (w : W) : Mo RV := ret (.val w)
variable {Wx : WX}
theorem ref_name (i : Nat) : RefE K mg ea Wx (tVar i) (mName i) := by
  intro σ H io Fr s S0 r0 s' e Q hok hex
  unfold mName at e
  split at e
  · rename_i w q
    cases e
    obtain ⟨v, q1, q2⟩ := S0.val i w q
    exact ⟨v, q1, hok _ rfl v H io ⟨S0, .refl, q2⟩⟩
  · rename_i c q
    cases e
    obtain ⟨a, o, q1, _⟩ := S0.own i c q
    exact ⟨_, q1, hok _ rfl _ H io ⟨S0, .refl, q1⟩⟩
  · cases e
theorem ref_c {w : W} {v : V} (h : ∀ io M H, Rw K mg io M H w v) : RefE K mg ea Wx (tC v) (mC w) := by
  intro σ H io Fr s S0 r0 s' e Q hok hex
  cases e
  exact hok _ rfl v H io ⟨S0, .refl, h _ _ _⟩

/-! ### tests -/
def toB : RV → Mo Bool
  | .val (.bl b) => ret b
  | _ => stk
def mB (m : Mo RV) : Mo Bool := bnd m toB
theorem toB_some {x : RV} {r : Except Ex Bool} (h : toB x s = some (r, s')) : s' = s ∧ ∃ b, x = .val (.bl b) ∧ r = .ok b := by
  unfold toB at h
  split at h
  · rename_i b
    cases h; exact ⟨rfl, b, rfl, rfl⟩
  · cases h
theorem ref_test {t : TE} {m : Mo RV} (h : RefE K mg ea Wx t m) : RefT K mg ea Wx (tTest t) (mB m) := by
  intro σ H io Fr s S0 r0 s' e Q hok hex
  rcases bnd_some e with ⟨x, e1, rfl⟩ | ⟨x, s1, e1, e2⟩
  · exact h σ H io Fr s S0 _ _ e1 _ (fun _ q => by cases q) fun x' q cls d H' io' px => by
      cases q
      exact hex _ rfl cls d H' io' px
  · refine h σ H io Fr s S0 _ _ e1 _ (fun x' q vx H1 io1 px => ?_) (fun _ q => by cases q)
    cases q
    obtain ⟨rfl, b, rfl, rfl⟩ := toB_some e2
    obtain ⟨S1, T1, R1⟩ := px
    cases R1
    exact ⟨b, rfl, hok _ rfl H1 io1 ⟨S1, T1⟩⟩
def mAnd (a b : Mo Bool) : Mo Bool := bnd a fun x => if x = true then b else ret false
def mOr (a b : Mo Bool) : Mo Bool := bnd a fun x => if x = true then ret true else b
def mNot (a : Mo Bool) : Mo Bool := bnd a fun x => ret (!x)
variable {ta tb : TT} {ma mb : Mo Bool}
/-- a test, then what its answer asks -/
theorem tst2 {α : Type} (ha : RefT K mg ea Wx ta ma) (S0 : Sim K mg ea io Fr s σ H) {f : Bool → Mo α} {r : Except Ex α} (e : bnd ma f s = some (r, s'))
    (hex : ∀ x, r = .error x → ∀ cls d H' io', PostX K mg ea io Fr s σ H s' σ io' H' x cls d → Wx cls d σ H')
    {R : Bool → Hp → Prop} (hR : ∀ b s1 H1 io1, f b s1 = some (r, s') → PostS K mg ea io Fr s σ H s1 σ io1 H1 → R b H1) : ta σ H R := by
  rcases bnd_some e with ⟨x, e1, rfl⟩ | ⟨b, s1, e1, e2⟩
  · exact ha σ H io Fr s S0 _ _ e1 _ (fun _ q => by cases q) fun x' q cls d H' io' px => by
      cases q
      exact hex _ rfl cls d H' io' px
  · refine ha σ H io Fr s S0 _ _ e1 _ (fun x' q H1 io1 px => ?_) (fun _ q => by cases q)
    cases q
    exact hR b s1 H1 io1 e2 px
theorem ref_and (ha : RefT K mg ea Wx ta ma) (hb : RefT K mg ea Wx tb mb) : RefT K mg ea Wx (tAnd ta tb) (mAnd ma mb) := by
  intro σ H io Fr s S0 r0 s' e Q hok hex
  refine tst2 ha S0 e hex fun b s1 H1 io1 e2 px => ?_
  cases b with
  | true => exact hb σ H1 io1 Fr s1 px.1 _ _ e2 _ (fun x q H2 io2 py => hok x q H2 io2 ⟨py.1, px.2.trans py.2⟩) fun x q cls d H2 io2 py => hex x q cls d H2 io2 ⟨py.1, px.2.trans py.2.1, py.2.2⟩
  | false => cases e2; exact hok _ rfl H1 io1 px
theorem ref_or (ha : RefT K mg ea Wx ta ma) (hb : RefT K mg ea Wx tb mb) : RefT K mg ea Wx (tOr ta tb) (mOr ma mb) := by
  intro σ H io Fr s S0 r0 s' e Q hok hex
  refine tst2 ha S0 e hex fun b s1 H1 io1 e2 px => ?_
  cases b with
  | false => exact hb σ H1 io1 Fr s1 px.1 _ _ e2 _ (fun x q H2 io2 py => hok x q H2 io2 ⟨py.1, px.2.trans py.2⟩) fun x q cls d H2 io2 py => hex x q cls d H2 io2 ⟨py.1, px.2.trans py.2.1, py.2.2⟩
  | true => cases e2; exact hok _ rfl H1 io1 px
theorem ref_not (ha : RefT K mg ea Wx ta ma) : RefT K mg ea Wx (tNot ta) (mNot ma) := by
  intro σ H io Fr s S0 r0 s' e Q hok hex
  refine tst2 ha S0 e hex fun b s1 H1 io1 e2 px => ?_
  cases e2
  exact hok _ rfl H1 io1 px
end

section
variable {X : Cx} {ea : EA} {Wx : WX} {a b c : Expr} {ma mb mc : Mo RV} {pos : Pos}
theorem pee_name (i : Nat) {x : Str} {pos : Pos} (hN : X.N[i]? = some x := by rfl) (hv : Vis X.env.scope x := by first | exact Or.inl rfl | exact Or.inr (Or.inl rfl) | exact Or.inr (Or.inr rfl)) (hd : (x == ("__debug__" : Str)) = false := by decide)
    (hcd : (x == ("__classdict__" : Str)) = false := by decide) : Pee X ea Wx (.Name x pos) (mName i) := ⟨_, pe_var hN hv hd hcd, ref_name i⟩
theorem pee_int {i j pos} : Pee X ea Wx (.Constant (.int i) j pos) (mC (.int i)) := ⟨_, pe_int, ref_c fun _ _ _ => .int i⟩
theorem pee_bl {b j pos} : Pee X ea Wx (.Constant (.bool b) j pos) (mC (.bl b)) := ⟨_, pe_bl, ref_c fun _ _ _ => .bl b⟩
theorem pee_non {j pos} : Pee X ea Wx (.Constant .none j pos) (mC .non) := ⟨_, pe_non, ref_c fun _ _ _ => .non⟩
theorem pee_str {x j pos} : Pee X ea Wx (.Constant (.str x) j pos) (mC (.str x)) := ⟨_, pe_str, ref_c fun _ _ _ => .str x⟩
theorem pee_op {op : Operator} {f : W → W → Option OR} (ho : OpM X (binaryOp op) f) (ha : Pee X ea Wx a ma) (hb : Pee X ea Wx b mb) : Pee X ea Wx (.BinOp a op b pos) (mBin f ma mb) := by
  obtain ⟨ta, pa, ra⟩ := ha.ex
  obtain ⟨tb, pb, rb⟩ := hb.ex
  obtain ⟨r, h1, h2⟩ := ho
  exact ⟨_, pe_op h1 pa pb, ref_op (X := X) (g := binaryOp op) h2 ra rb⟩
theorem pee_un {op : UnaryOp} {f : W → Option OR} (ho : UnM X (unaryOp op) f) (ha : Pee X ea Wx a ma) : Pee X ea Wx (.UnaryOp op a pos) (mUn f ma) := by
  obtain ⟨ta, pa, ra⟩ := ha.ex
  obtain ⟨r, h1, h2⟩ := ho
  exact ⟨_, pe_un h1 pa, ref_un h2 ra⟩
theorem pee_cmp {op : CmpOp} {f : W → W → Option OR} (ho : OpM X (compareOp op) f) (ha : Pee X ea Wx a ma) (hb : Pee X ea Wx b mb) (hm : behindInMarks op b = false := by first | exact nomark _ | with_unfolding_all rfl) : Pee X ea Wx (.Compare a [op] [b] pos) (mBin f ma mb) := by
  obtain ⟨ta, pa, ra⟩ := ha.ex
  obtain ⟨tb, pb, rb⟩ := hb.ex
  obtain ⟨r, h1, h2⟩ := ho
  exact ⟨_, pe_cmpR h1 pa pb hm, ref_op (X := X) (g := compareOp op) h2 ra rb⟩
theorem pet_cmp {op : CmpOp} {f : W → W → Option OR} (ho : OpM X (compareOp op) f) (ha : Pee X ea Wx a ma) (hb : Pee X ea Wx b mb) (hm : behindInMarks op b = false := by first | exact nomark _ | with_unfolding_all rfl) : Pet X ea Wx (.Compare a [op] [b] pos) (mB (mBin f ma mb)) := by
  obtain ⟨ta, pa, ra⟩ := ha.ex
  obtain ⟨tb, pb, rb⟩ := hb.ex
  obtain ⟨r, h1, h2⟩ := ho
  exact ⟨_, pt_cmpR h1 pa pb hm, ref_test (ref_op (X := X) (g := compareOp op) h2 ra rb)⟩
theorem pet_val {e : Expr} {m : Mo RV} (h : Pee X ea Wx e m) (he : ∀ whole, isTrue e X.env whole = (do let v ← whole; standAt e.pos; holding [v] (truthy v)) := by intro _; rfl) : Pet X ea Wx e (mB m) := by
  obtain ⟨t, p, r⟩ := h.ex
  exact ⟨_, pt_val p he, ref_test r⟩
variable {tma tmb : Mo Bool} {rest : List Expr}
theorem pew_and1 (ha : Pet X ea Wx a tma) : Pew X ea Wx (.BoolOp .And [a] pos) tma := let ⟨_, p, r⟩ := ha.ex; ⟨_, pw_and1 p, r⟩
theorem pew_or1 (ha : Pet X ea Wx a tma) : Pew X ea Wx (.BoolOp .Or [a] pos) tma := let ⟨_, p, r⟩ := ha.ex; ⟨_, pw_or1 p, r⟩
theorem pew_and (ha : Pet X ea Wx a tma) (hb : Pew X ea Wx (.BoolOp .And (b :: rest) pos) tmb) : Pew X ea Wx (.BoolOp .And (a :: b :: rest) pos) (mAnd tma tmb) :=
  let ⟨_, p, r⟩ := ha.ex; let ⟨_, p', r'⟩ := hb.ex; ⟨_, pw_and p p', ref_and r r'⟩
theorem pew_or (ha : Pet X ea Wx a tma) (hb : Pew X ea Wx (.BoolOp .Or (b :: rest) pos) tmb) : Pew X ea Wx (.BoolOp .Or (a :: b :: rest) pos) (mOr tma tmb) :=
  let ⟨_, p, r⟩ := ha.ex; let ⟨_, p', r'⟩ := hb.ex; ⟨_, pw_or p p', ref_or r r'⟩
theorem Pew.pt {e : Expr} {m : Mo Bool} (h : Pew X ea Wx e m) : Pet X ea Wx e m := let ⟨_, p, r⟩ := h.ex; ⟨_, p.pt, r⟩
theorem pet_not (ha : Pet X ea Wx a tma) : Pet X ea Wx (.UnaryOp .Not a pos) (mNot tma) := let ⟨_, p, r⟩ := ha.ex; ⟨_, pt_not p, ref_not r⟩
end
end Z

set_option Elab.async false
set_option linter.all false
set_option maxRecDepth 100000
/-! Z4: what is read of values; the operators' rules by values. -/
namespace Z
open PySem PySem.Spec PyProof.Rows L2
section
variable {K : PySem.W.Frag} {mg : Str → Option Value} {io : List Addr} {M : Addr → Prop} {H : Hp} {w : W} {v : V} {ws : List W}

theorem Rn.int {i : Int} (h : Rn K mg io M H (.int i) v) : v = .int i := by
  rcases h with h | ⟨c, o, a, e, _⟩
  · cases h; rfl
  · cases c <;> cases e
theorem Rn.bl {i : Bool} (h : Rn K mg io M H (.bl i) v) : v = .bl i := by
  rcases h with h | ⟨c, o, a, e, _⟩
  · cases h; rfl
  · cases c <;> cases e
theorem Rn.str {i : Str} (h : Rn K mg io M H (.str i) v) : v = .str i := by
  rcases h with h | ⟨c, o, a, e, _⟩
  · cases h; rfl
  · cases c <;> cases e
theorem Rn.byt {i : Array UInt8} (h : Rn K mg io M H (.byt i) v) : v = .byt i := by
  rcases h with h | ⟨c, o, a, e, _⟩
  · cases h; rfl
  · cases c <;> cases e
theorem Rn.non (h : Rn K mg io M H .non v) : v = .non := by
  rcases h with h | ⟨c, o, a, e, _⟩
  · cases h; rfl
  · cases c <;> cases e
theorem Rn.lst (h : Rn K mg io M H (.lst ws) v) : ∃ a vs, v = .ref a ∧ H a = some (.lst vs) ∧ Rws K mg io M H ws vs := by
  rcases h with h | ⟨c, o, a, e, rfl, ha, hc⟩
  · cases h with
    | lst h n l q => exact ⟨_, _, rfl, h, l, q⟩
  · cases c <;> cases e
    obtain ⟨vs, rfl, r⟩ := hc
    exact ⟨a, vs, rfl, ha, r⟩
theorem Rn.tup (h : Rn K mg io M H (.tup ws) v) : ∃ a vs, v = .ref a ∧ SqT K H a vs ∧ Rws K mg io M H ws vs := by
  rcases h with h | ⟨c, o, a, e, rfl, ha, hc⟩
  · cases h with
    | tup h l q => exact ⟨_, _, rfl, h.elim (fun z => SqT.of z.1) fun z => .inr z.1, l, q⟩
  · cases c <;> cases e
theorem Rn.tupRw (h : Rn K mg io M H (.tup ws) v) : Rw K mg io M H (.tup ws) v := by
  rcases h with h | ⟨c, o, a, e, rfl, ha, hc⟩
  · exact h
  · cases c <;> cases e
/-- a tuple that is not empty is tracked -/
theorem Rn.tup1 (h : Rn K mg io M H (.tup (w :: ws)) v) : ∃ a vs, v = .ref a ∧ H a = some (.tup vs) ∧ Rws K mg io M H (w :: ws) vs := by
  rcases h with h | ⟨c, o, a, e, rfl, ha, hc⟩
  · cases h with
    | tup h l q =>
      rcases h with h | ⟨_, rfl⟩
      · exact ⟨_, _, rfl, h.1, l, q⟩
      · simp at l
  · cases c <;> cases e
theorem Rn.frl (h : Rn K mg io M H (.frl ws) v) : ∃ a vs, v = .ref a ∧ SqL K H a vs ∧ Rws K mg io M H ws vs := by
  rcases h with h | ⟨c, o, a, e, rfl, ha, hc⟩
  · cases h with
    | frl h l q => exact ⟨_, _, rfl, h.imp (fun z => z.1) id, l, q⟩
  · cases c <;> cases e
theorem Rn.dK {kvs : List (Key × W)} (h : Rn K mg io M H (.dK kvs) v) : ∃ a vs, v = .ref a ∧ Rd H a (.dK vs) ∧ Rkv K mg io M H kvs vs := by
  rcases h with h | ⟨c, o, a, e, rfl, ha, hc⟩
  · cases h with
    | dK h n l q => exact ⟨_, _, rfl, h, l, by simpa using congrArg List.length l, q⟩
  · cases c <;> cases e
    obtain ⟨vs, rfl, r⟩ := hc
    exact ⟨a, vs, rfl, .inl ha, r⟩
theorem Rn.dT {kvs : List (List Key × W)} (h : Rn K mg io M H (.dT kvs) v) : ∃ a vs, v = .ref a ∧ Rd H a (.dT vs) ∧ Rkv K mg io M H kvs vs := by
  rcases h with h | ⟨c, o, a, e, rfl, ha, hc⟩
  · cases h with
    | dT h n l q => exact ⟨_, _, rfl, h, l, by simpa using congrArg List.length l, q⟩
  · cases c <;> cases e
    obtain ⟨vs, rfl, r⟩ := hc
    exact ⟨a, vs, rfl, .inl ha, r⟩
theorem Rn.dF {kvs : List (List Key × W)} (h : Rn K mg io M H (.dF kvs) v) : ∃ a ob vs, v = .ref a ∧ H a = some (.frz ob (.dT vs)) ∧ ¬ M a ∧ Rkv K mg io M H kvs vs := by
  rcases h with h | ⟨c, o, a, e, rfl, ha, hc⟩
  · cases h with
    | dF h n l q => exact ⟨_, _, _, rfl, h, n, l, by simpa using congrArg List.length l, q⟩
  · cases c <;> cases e
theorem Rn.obj {nm : Str} {fs : List (Str × W)} (h : Rn K mg io M H (.obj nm fs) v) : ∃ a C dx vs, v = .ref a ∧ mg nm = some (.ref C) ∧ H a = some (.ins C dx vs) ∧ Rkv K mg io M H fs vs := by
  rcases h with h | ⟨c, o, a, e, rfl, ha, hc⟩
  · cases h with
    | obj m h n l q => exact ⟨_, _, _, _, rfl, m, h, l, by simpa using congrArg List.length l, q⟩
  · cases c <;> cases e
    obtain ⟨C, dx, vs, rfl, m, r⟩ := hc
    exact ⟨a, C, dx, vs, rfl, m, ha, r⟩
theorem Rn.seq {v : V} (h : Rn K mg io M H w v) (e : w = .lst ws ∨ w = .frl ws ∨ w = .tup ws) : ∃ a vs, v = .ref a ∧ (SqL K H a vs ∨ SqT K H a vs) ∧ Rws K mg io M H ws vs := by
  rcases e with rfl | rfl | rfl
  · obtain ⟨a, vs, e, q, r⟩ := h.lst; exact ⟨a, vs, e, .inl (.inl (.inl q)), r⟩
  · obtain ⟨a, vs, e, q, r⟩ := h.frl; exact ⟨a, vs, e, .inl q, r⟩
  · obtain ⟨a, vs, e, q, r⟩ := h.tup; exact ⟨a, vs, e, .inr q, r⟩
/-- the items of a list or tuple -/
def seqOf : W → Option (List W)
  | .lst ws => some ws
  | .frl ws => some ws
  | .tup ws => some ws
  | _ => none
theorem seqOf_some (e : seqOf w = some ws) : w = .lst ws ∨ w = .frl ws ∨ w = .tup ws := by
  cases w <;> simp [seqOf] at e <;> subst e <;> simp

/-! ### data -/
mutual
def toPD : W → Option PyData
  | .non => some .none
  | .bl b => some (.bool b)
  | .int i => some (.int i)
  | .str x => some (.str x)
  | .lst ws => (toPDs ws).map .list
  | .frl ws => (toPDs ws).map .list
  | .tup ws => (toPDs ws).map .tuple
  | _ => none
def toPDs : List W → Option (List PyData)
  | [] => some []
  | w :: ws => match toPD w, toPDs ws with
    | some d, some ds => some (d :: ds)
    | _, _ => none
end
theorem dpAll_of : ∀ {ws : List W} {vs : List V} {ds : List PyData}, ws.length = vs.length → (∀ (i : Nat) (w : W) (v : V), ws[i]? = some w → vs[i]? = some v → ∀ d, toPD w = some d → Dp K H v d) → toPDs ws = some ds → DpAll K H vs ds
  | [], [], ds, _, _, e => by simp only [toPDs, Option.some.injEq] at e; subst e; exact .nil
  | [], _ :: _, _, l, _, _ => by simp at l
  | _ :: _, [], _, l, _, _ => by simp at l
  | w :: ws, v :: vs, ds, l, h, e => by
    simp only [toPDs] at e
    cases e1 : toPD w with
    | none => rw [e1] at e; simp at e
    | some d =>
      cases e2 : toPDs ws with
      | none => rw [e1, e2] at e; simp at e
      | some ds' =>
        rw [e1, e2] at e
        simp only [Option.some.injEq] at e
        subst e
        exact .cons (h 0 w v rfl rfl d e1) (dpAll_of (by simpa using l) (fun i w' v' a b => h (i + 1) w' v' (by simpa using a) (by simpa using b)) e2)
theorem Rw.dp {d : PyData} (h : Rw K mg io M H w v) (e : toPD w = some d) : Dp K H v d := by
  induction h generalizing d with
  | non => simp only [toPD, Option.some.injEq] at e; subst e; exact .non
  | bl b => simp only [toPD, Option.some.injEq] at e; subst e; exact .bl b
  | int i => simp only [toPD, Option.some.injEq] at e; subst e; exact .int i
  | str x => simp only [toPD, Option.some.injEq] at e; subst e; exact .str x
  | byt b => simp [toPD] at e
  | tup h l _ ih =>
    simp only [toPD, Option.map_eq_some_iff] at e
    obtain ⟨ds, e1, rfl⟩ := e
    exact .tup (h.elim (fun z => SqT.of z.1) fun z => .inr z.1) (dpAll_of l (fun i w v a b d q => ih i w v a b q) e1)
  | frl h l _ ih =>
    simp only [toPD, Option.map_eq_some_iff] at e
    obtain ⟨ds, e1, rfl⟩ := e
    exact .lst (h.imp (fun z => z.1) id) (dpAll_of l (fun i w v a b d q => ih i w v a b q) e1)
  | lst h n l _ ih =>
    simp only [toPD, Option.map_eq_some_iff] at e
    obtain ⟨ds, e1, rfl⟩ := e
    exact .lst (SqL.of h) (dpAll_of l (fun i w v a b d q => ih i w v a b q) e1)
  | dK h n l _ ih => simp [toPD] at e
  | dT h n l _ ih => simp [toPD] at e
  | dF h n l _ ih => simp [toPD] at e
  | obj m h n l _ ih => simp [toPD] at e
  | slt m h n h2 n2 l _ ih => simp [toPD] at e
  | ref h => simp [toPD] at e
theorem Rn.dp {d : PyData} (h : Rn K mg io M H w v) (e : toPD w = some d) : Dp K H v d := by
  rcases h with h | ⟨c, o, a, rfl, rfl, ha, hc⟩
  · exact h.dp e
  · cases c with
    | lst ws =>
      obtain ⟨vs, rfl, r⟩ := hc
      simp only [Cell.toW, toPD, Option.map_eq_some_iff] at e
      obtain ⟨ds, e1, rfl⟩ := e
      exact .lst (SqL.of ha) (dpAll_of r.1 (fun i w v a b d q => (r.2 i w v a b).dp q) e1)
    | dK ws => simp [toPD] at e
    | dT ws => simp [toPD] at e
    | ins nm ws => simp [toPD] at e
end

/-! ### numbers -/
instance (i j : Int) : Decidable (CMul i j) := by unfold CMul; infer_instance
instance (i j : Int) : Decidable (CDivW i j) := by unfold CDivW; infer_instance
instance (i j : Int) : Decidable (CPow i j) := by unfold CPow; infer_instance
def fI (g : Int → Int → Int) : W → W → Option OR
  | .int i, .int j => some (.imm (.int (g i j)))
  | _, _ => none
def fIC (C : Int → Int → Prop) [∀ i j, Decidable (C i j)] (g : Int → Int → Int) : W → W → Option OR
  | .int i, .int j => if C i j then some (.imm (.int (g i j))) else none
  | _, _ => none
def fIB (g : Int → Int → Bool) : W → W → Option OR
  | .int i, .int j => some (.imm (.bl (g i j)))
  | _, _ => none
section
variable {X : Cx}
theorem om_I {g : Int → Int → Int} {op : Value → Value → Sem Value} (h : OpR X op (rI0 fun i j => .int (g i j))) : OpM X op (fI g) := by
  refine ⟨_, h, fun io M H x y vx vy z Q rx ry e q => ?_⟩
  unfold fI at e
  split at e
  · rename_i i j
    cases e
    exact ⟨i, j, rx.int, ry.int, q _ (.int _)⟩
  · cases e
theorem om_IC {C : Int → Int → Prop} [∀ i j, Decidable (C i j)] {g : Int → Int → Int} {op : Value → Value → Sem Value} (h : OpR X op (rI C fun i j => .int (g i j))) : OpM X op (fIC C g) := by
  refine ⟨_, h, fun io M H x y vx vy z Q rx ry e q => ?_⟩
  unfold fIC at e
  split at e
  · rename_i i j
    split at e
    · rename_i hc
      cases e
      exact ⟨i, j, rx.int, ry.int, hc, q _ (.int _)⟩
    · cases e
  · cases e
theorem om_IB {g : Int → Int → Bool} {op : Value → Value → Sem Value} (h : OpR X op (rI0 fun i j => .bl (g i j))) : OpM X op (fIB g) := by
  refine ⟨_, h, fun io M H x y vx vy z Q rx ry e q => ?_⟩
  unfold fIB at e
  split at e
  · rename_i i j
    cases e
    exact ⟨i, j, rx.int, ry.int, q _ (.bl _)⟩
  · cases e
def fU (g : Int → Int) : W → Option OR
  | .int i => some (.imm (.int (g i)))
  | _ => none
theorem um_I {g : Int → Int} {op : Value → Sem Value} (h : UnR X op (rU fun i => .int (g i))) : UnM X op (fU g) := by
  refine ⟨_, h, fun io M H x vx z Q rx e q => ?_⟩
  unfold fU at e
  split at e
  · rename_i i
    cases e
    exact ⟨i, rx.int, q _ (.int _)⟩
  · cases e

/-! ### +, * of texts, lists, tuples -/
def sz : Nat := 16777216
theorem sz_eq : sizeLine = sz := sizeLine_eq
def fAddS : W → W → Option OR
  | .str a, .str b => if a.length + b.length ≤ sz then some (.imm (.str (a ++ b))) else none
  | _, _ => none
theorem om_addS : OpM X (binaryOp .Add) fAddS := by
  refine ⟨_, op_add_str, fun io M H x y vx vy z Q rx ry e q => ?_⟩
  unfold fAddS at e
  split at e
  · split at e
    · rename_i h
      cases e
      exact ⟨_, _, rx.str, ry.str, by rw [sz_eq]; exact h, q _ (.str _)⟩
    · cases e
  · cases e
def fAddL : W → W → Option OR
  | .lst a, .lst b => if a.length + b.length ≤ sz then some (.newl (a ++ b)) else none
  | _, _ => none
theorem om_addL : OpM X (binaryOp .Add) fAddL := by
  refine ⟨_, op_cat, fun io M H x y vx vy z Q rx ry e q => ?_⟩
  unfold fAddL at e
  split at e
  · split at e
    · rename_i h
      cases e
      obtain ⟨a, vs, rfl, ha, r1⟩ := rx.lst
      obtain ⟨b, us, rfl, hb, r2⟩ := ry.lst
      exact ⟨a, b, vs, us, rfl, rfl, ha, hb, by rw [sz_eq, ← r1.1, ← r2.1]; exact h, fun p hp => q p _ hp (r1.append r2)⟩
    · cases e
  · cases e
def fAddT : W → W → Option OR
  | .tup [], .tup bs => if bs.length ≤ sz then some (.imm (.tup bs)) else none
  | .tup (a :: as), .tup [] => if (a :: as).length ≤ sz then some (.imm (.tup (a :: as))) else none
  | .tup (a :: as), .tup (b :: bs) => if (a :: as).length + (b :: bs).length ≤ sz then some (.newt (a :: as ++ b :: bs)) else none
  | _, _ => none
theorem om_addT : OpM X (binaryOp .Add) fAddT := by
  refine ⟨_, op_catA, fun io M H x y vx vy z Q rx ry e q => ?_⟩
  unfold fAddT at e
  split at e
  · split at e
    · rename_i h
      cases e
      have rw := ry.tupRw
      obtain ⟨a, vs, rfl, ha, r1⟩ := rx.tup
      obtain ⟨b, us, rfl, hb, r2⟩ := ry.tup
      have hv : vs = [] := by have := r1.1; simpa using this.symm
      subst hv
      refine ⟨a, b, [], us, rfl, rfl, ha, hb, by rw [sz_eq, ← r2.1]; simpa using h, fun _ => q _ rw, fun z => absurd rfl z, fun z => absurd rfl z⟩
    · cases e
  · split at e
    · rename_i h
      cases e
      have rw := rx.tupRw
      obtain ⟨a, vs, rfl, ha, r1⟩ := rx.tup
      obtain ⟨b, us, rfl, hb, r2⟩ := ry.tup
      have hu : us = [] := by have := r2.1; simpa using this.symm
      subst hu
      refine ⟨a, b, vs, [], rfl, rfl, ha, hb, by rw [sz_eq, ← r1.1]; simpa using h, fun z => ?_, fun _ _ => q _ rw, fun _ z => absurd rfl z⟩
      have := r1.1; rw [z] at this; simp at this
    · cases e
  · split at e
    · rename_i h
      cases e
      obtain ⟨a, vs, rfl, ha, r1⟩ := rx.tup
      obtain ⟨b, us, rfl, hb, r2⟩ := ry.tup
      refine ⟨a, b, vs, us, rfl, rfl, ha, hb, by rw [sz_eq, ← r1.1, ← r2.1]; exact h, fun z => ?_, fun _ z => ?_, fun _ _ p hp => q p _ hp (r1.append r2)⟩
      · have := r1.1; rw [z] at this; simp at this
      · have := r2.1; rw [z] at this; simp at this
    · cases e
  · cases e
def fAdd : W → W → Option OR := orf (fI fun i j => i + j) (orf fAddS (orf fAddL fAddT))
theorem om_add : OpM X (binaryOp .Add) fAdd := (om_I op_add).or (om_addS.or (om_addL.or om_addT))
def fSub : W → W → Option OR := fI fun i j => i - j
theorem om_sub : OpM X (binaryOp .Sub) fSub := om_I op_sub
def repW (ws : List W) (k : Nat) : List W := (List.replicate k ws).flatten
def fRepL : W → W → Option OR
  | .lst a, .int k => if -(2 ^ 63) ≤ k ∧ k < 2 ^ 63 ∧ a.length * k.toNat ≤ sz then some (.newl (repW a k.toNat)) else none
  | _, _ => none
end
end Z

set_option Elab.async false
set_option linter.all false
set_option maxRecDepth 100000
/-! Z5: operators (rest), subscripts, displays, arguments, built-ins. -/
namespace Z
open PySem PySem.Spec PyProof.Rows L2
section
variable {X : Cx}
theorem Rws.rep {K : PySem.W.Frag} {mg : Str → Option Value} {io : List Addr} {M : Addr → Prop} {H : Hp} {ws : List W} {vs : List V} (h : Rws K mg io M H ws vs) : ∀ k : Nat, Rws K mg io M H (repW ws k) (List.replicate k vs).flatten
  | 0 => Rws.nil
  | k + 1 => by
    unfold repW
    rw [List.replicate_succ, List.replicate_succ, List.flatten_cons, List.flatten_cons]
    exact h.append (Rws.rep h k)
theorem om_repL : OpM X (binaryOp .Mult) fRepL := by
  refine ⟨_, op_rep, fun io M H x y vx vy z Q rx ry e q => ?_⟩
  unfold fRepL at e
  split at e
  · split at e
    · rename_i h
      cases e
      obtain ⟨a, vs, rfl, ha, r1⟩ := rx.lst
      exact ⟨a, _, vs, rfl, ry.int, ha, h.1, h.2.1, by rw [sz_eq, ← r1.1]; exact h.2.2, fun p hp => q p _ hp (r1.rep _)⟩
    · cases e
  · cases e
def fMul : W → W → Option OR := orf (fIC CMul fun i j => i * j) fRepL
theorem om_mul : OpM X (binaryOp .Mult) fMul := (om_IC op_mul).or om_repL
def fDiv : W → W → Option OR := fIC CDivW fun i j => i / j
theorem om_div : OpM X (binaryOp .FloorDiv) fDiv := om_IC op_fdivW
def fMod : W → W → Option OR := fIC (fun _ j => 0 < j) fun i j => i % j
theorem om_mod : OpM X (binaryOp .Mod) fMod := om_IC op_mod
def fPow : W → W → Option OR := fIC CPow fun i j => i ^ j.toNat
theorem om_pow : OpM X (binaryOp .Pow) fPow := om_IC op_pow
def fShl : W → W → Option OR := fIC CPow fun i j => i * 2 ^ j.toNat
theorem om_shl : OpM X (binaryOp .LShift) fShl := om_IC op_shl
def fShr : W → W → Option OR := fIC (fun _ j => 0 ≤ j) fun i j => i / 2 ^ j.toNat
theorem om_shr : OpM X (binaryOp .RShift) fShr := om_IC op_shr
def fBAnd : W → W → Option OR := fI Builtin.bitAnd
theorem om_band : OpM X (binaryOp .BitAnd) fBAnd := om_I op_and
def fBOr : W → W → Option OR := fI Builtin.bitOr
theorem om_bor : OpM X (binaryOp .BitOr) fBOr := om_I op_or
def fBXor : W → W → Option OR := fI Builtin.bitXor
theorem om_bxor : OpM X (binaryOp .BitXor) fBXor := om_I op_xor
def fNeg : W → Option OR := fU fun i => -i
theorem um_neg : UnM X (unaryOp .USub) fNeg := um_I un_neg
def fInv : W → Option OR := fU Builtin.bitNot
theorem um_inv : UnM X (unaryOp .Invert) fInv := um_I un_inv
def fLt : W → W → Option OR := fIB fun i j => decide (i < j)
theorem om_lt : OpM X (compareOp .Lt) fLt := om_IB op_lt
def fLe : W → W → Option OR := fIB fun i j => decide (i ≤ j)
theorem om_le : OpM X (compareOp .LtE) fLe := om_IB op_le
def fGt : W → W → Option OR := fIB fun i j => decide (j < i)
theorem om_gt : OpM X (compareOp .Gt) fGt := om_IB op_gt
def fGe : W → W → Option OR := fIB fun i j => decide (j ≤ i)
theorem om_ge : OpM X (compareOp .GtE) fGe := om_IB op_ge

/-! ### == of data -/
def eqP (x y : W) : Option Bool := match toPD x, toPD y with
  | some d, some e => if SeqAt.shaped d = true ∧ SeqAt.shaped e = true then some (PyData.eqv d e) else none
  | _, _ => none
theorem eqP_some {x y : W} {b : Bool} (h : eqP x y = some b) : ∃ d e, toPD x = some d ∧ toPD y = some e ∧ SeqAt.shaped d = true ∧ SeqAt.shaped e = true ∧ b = PyData.eqv d e := by
  unfold eqP at h
  split at h
  · rename_i d e h1 h2
    split at h
    · rename_i h3
      cases h
      exact ⟨d, e, h1, h2, h3.1, h3.2, rfl⟩
    · cases h
  · cases h
def fEqD (x y : W) : Option OR := (eqP x y).map fun b => .imm (.bl b)
def fNeD (x y : W) : Option OR := (eqP x y).map fun b => .imm (.bl (!b))
theorem om_eqD (hu : X.A.units + 64 < cLine) : OpM X (compareOp .Eq) fEqD := by
  refine ⟨_, op_eqD hu, fun io M H x y vx vy z Q rx ry e q => ?_⟩
  unfold fEqD at e
  obtain ⟨b, e1, rfl⟩ := Option.map_eq_some_iff.mp e
  obtain ⟨d, e', h1, h2, h3, h4, rfl⟩ := eqP_some e1
  exact ⟨d, e', rx.dp h1, ry.dp h2, h3, h4, q _ (.bl _)⟩
theorem om_neD (hu : X.A.units + 64 < cLine) : OpM X (compareOp .NotEq) fNeD := by
  refine ⟨_, op_neD hu, fun io M H x y vx vy z Q rx ry e q => ?_⟩
  unfold fNeD at e
  obtain ⟨b, e1, rfl⟩ := Option.map_eq_some_iff.mp e
  obtain ⟨d, e', h1, h2, h3, h4, rfl⟩ := eqP_some e1
  exact ⟨d, e', rx.dp h1, ry.dp h2, h3, h4, q _ (.bl _)⟩

/-! ### is None -/
def fIsN : W → W → Option OR
  | .non, .non => some (.imm (.bl true))
  | .ref _, .non => none
  | _, .non => some (.imm (.bl false))
  | _, _ => none
def fNotN : W → W → Option OR
  | .non, .non => some (.imm (.bl false))
  | .ref _, .non => none
  | _, .non => some (.imm (.bl true))
  | _, _ => none
theorem Rn.notNon {K : PySem.W.Frag} {mg : Str → Option Value} {io : List Addr} {M : Addr → Prop} {H : Hp} {w : W} {v : V} (h : Rn K mg io M H w v) (hn : w ≠ .non) : decide (v = .non) = false := by
  rcases h with h | ⟨c, o, a, e, rfl, ha, hc⟩
  · cases h <;> first | exact absurd rfl hn | rfl
  · rfl
theorem om_isN : OpM X (compareOp .Is) fIsN := by
  refine ⟨_, op_isN, fun io M H x y vx vy z Q rx ry e q => ?_⟩
  unfold fIsN at e
  split at e
  · cases e
    have h1 := rx.non
    subst h1
    exact ⟨ry.non, q _ (.bl _)⟩
  · cases e
  · rename_i h1 h2
    cases e
    refine ⟨ry.non, ?_⟩
    rw [rx.notNon (fun z => h1 z)]
    exact q _ (.bl _)
  · cases e
theorem om_notN : OpM X (compareOp .IsNot) fNotN := by
  refine ⟨_, op_notN, fun io M H x y vx vy z Q rx ry e q => ?_⟩
  unfold fNotN at e
  split at e
  · cases e
    have h1 := rx.non
    subst h1
    exact ⟨ry.non, q _ (.bl _)⟩
  · cases e
  · rename_i h1 h2
    cases e
    refine ⟨ry.non, ?_⟩
    rw [rx.notNon (fun z => h1 z)]
    exact q _ (.bl _)
  · cases e

/-! ### in -/
def anyP (x : W) (ws : List W) : Option Bool := match toPD x, toPDs ws with
  | some d, some ds => if SeqAt.shaped d = true ∧ SeqAt.shaped (.list ds) = true then some (ds.any fun z => PyData.eqv z d) else none
  | _, _ => none
def fInL (neg : Bool) : W → W → Option OR
  | x, .lst ws => (anyP x ws).map fun b => .imm (.bl (b != neg))
  | x, .frl ws => (anyP x ws).map fun b => .imm (.bl (b != neg))
  | _, _ => none
theorem anyP_some {x : W} {ws : List W} {b : Bool} (h : anyP x ws = some b) : ∃ d ds, toPD x = some d ∧ toPDs ws = some ds ∧ SeqAt.shaped d = true ∧ SeqAt.shaped (.list ds) = true ∧ b = ds.any fun z => PyData.eqv z d := by
  unfold anyP at h
  split at h
  · rename_i d e h1 h2
    split at h
    · rename_i h3
      cases h
      exact ⟨d, e, h1, h2, h3.1, h3.2, rfl⟩
    · cases h
  · cases h
theorem om_inL (hu : X.A.units + 65 < cLine) : OpM X (compareOp .In) (fInL false) := by
  refine ⟨_, op_inD hu, fun io M H x y vx vy z Q rx ry e q => ?_⟩
  unfold fInL at e
  split at e
  · obtain ⟨b, e1, rfl⟩ := Option.map_eq_some_iff.mp e
    obtain ⟨d, ds, h1, h2, h3, h4, rfl⟩ := anyP_some e1
    refine ⟨d, ds, rx.dp h1, ry.dp (by simp [toPD, h2]), h3, h4, ?_⟩
    simpa using q _ (.bl _)
  · obtain ⟨b, e1, rfl⟩ := Option.map_eq_some_iff.mp e
    obtain ⟨d, ds, h1, h2, h3, h4, rfl⟩ := anyP_some e1
    refine ⟨d, ds, rx.dp h1, ry.dp (by simp [toPD, h2]), h3, h4, ?_⟩
    simpa using q _ (.bl _)
  · cases e
theorem om_notInL (hu : X.A.units + 65 < cLine) : OpM X (compareOp .NotIn) (fInL true) := by
  refine ⟨_, op_notInD hu, fun io M H x y vx vy z Q rx ry e q => ?_⟩
  unfold fInL at e
  split at e
  · obtain ⟨b, e1, rfl⟩ := Option.map_eq_some_iff.mp e
    obtain ⟨d, ds, h1, h2, h3, h4, rfl⟩ := anyP_some e1
    refine ⟨d, ds, rx.dp h1, ry.dp (by simp [toPD, h2]), h3, h4, ?_⟩
    have := q _ (.bl _)
    rwa [Bool.bne_true] at this
  · obtain ⟨b, e1, rfl⟩ := Option.map_eq_some_iff.mp e
    obtain ⟨d, ds, h1, h2, h3, h4, rfl⟩ := anyP_some e1
    refine ⟨d, ds, rx.dp h1, ry.dp (by simp [toPD, h2]), h3, h4, ?_⟩
    have := q _ (.bl _)
    rwa [Bool.bne_true] at this
  · cases e
/-- a scalar -/
def toV : W → Option V
  | .non => some .non
  | .bl b => some (.bl b)
  | .int i => some (.int i)
  | .str x => some (.str x)
  | _ => none
def toVs : List W → Option (List V)
  | [] => some []
  | w :: ws => match toV w, toVs ws with
    | some v, some vs => some (v :: vs)
    | _, _ => none
theorem Rw.toV {K : PySem.W.Frag} {mg : Str → Option Value} {io : List Addr} {M : Addr → Prop} {H : Hp} {w : W} {v u : V} (h : Rw K mg io M H w v) (e : Z.toV w = some u) : v = u ∧ flatV u = true := by
  cases h <;> simp [Z.toV] at e <;> subst e <;> exact ⟨rfl, rfl⟩
theorem Rn.toV {K : PySem.W.Frag} {mg : Str → Option Value} {io : List Addr} {M : Addr → Prop} {H : Hp} {w : W} {v u : V} (h : Rn K mg io M H w v) (e : Z.toV w = some u) : v = u ∧ flatV u = true := by
  rcases h with h | ⟨c, o, a, rfl, rfl, ha, hc⟩
  · exact h.toV e
  · cases c <;> simp [Z.toV] at e
theorem Rws.toVs {K : PySem.W.Frag} {mg : Str → Option Value} {io : List Addr} {M : Addr → Prop} {H : Hp} : ∀ {ws : List W} {vs us : List V}, Rws K mg io M H ws vs → Z.toVs ws = some us → vs = us ∧ us.all flatV = true
  | [], vs, us, h, e => by
    rw [h.nil_inv]
    simp only [Z.toVs, Option.some.injEq] at e
    subst e
    exact ⟨rfl, rfl⟩
  | w :: ws, vs, us, h, e => by
    obtain ⟨v, r, rfl, h1, h2⟩ := h.cons_inv
    simp only [Z.toVs] at e
    cases e1 : Z.toV w with
    | none => rw [e1] at e; simp at e
    | some u =>
      cases e2 : Z.toVs ws with
      | none => rw [e1, e2] at e; simp at e
      | some us' =>
        rw [e1, e2] at e
        simp only [Option.some.injEq] at e
        subst e
        obtain ⟨rfl, f1⟩ := h1.toV e1
        obtain ⟨rfl, f2⟩ := Rws.toVs h2 e2
        exact ⟨rfl, by simp [f1, f2]⟩
def fInT (neg : Bool) : W → W → Option OR
  | x, .tup ws => match Z.toV x, Z.toVs ws with
    | some v, some vs => some (.imm (.bl (inV v vs != neg)))
    | _, _ => none
  | _, _ => none
theorem om_inT : OpM X (compareOp .In) (fInT false) := by
  refine ⟨_, op_in_seq, fun io M H x y vx vy z Q rx ry e q => ?_⟩
  unfold fInT at e
  split at e
  · split at e
    · rename_i h1 h2
      cases e
      obtain ⟨a, vs, rfl, ha, r⟩ := ry.tup
      obtain ⟨rfl, f1⟩ := rx.toV h1
      obtain ⟨rfl, f2⟩ := r.toVs h2
      refine ⟨a, _, rfl, .inr ha, f1, f2, ?_⟩
      simpa using q _ (.bl _)
    · cases e
  · cases e
theorem om_notInT : OpM X (compareOp .NotIn) (fInT true) := by
  refine ⟨_, op_notIn_seq, fun io M H x y vx vy z Q rx ry e q => ?_⟩
  unfold fInT at e
  split at e
  · split at e
    · rename_i h1 h2
      cases e
      obtain ⟨a, vs, rfl, ha, r⟩ := ry.tup
      obtain ⟨rfl, f1⟩ := rx.toV h1
      obtain ⟨rfl, f2⟩ := r.toVs h2
      refine ⟨a, _, rfl, .inr ha, f1, f2, ?_⟩
      have := q _ (.bl _)
      rwa [Bool.bne_true] at this
    · cases e
  · cases e
/-! ### keys -/
def keyOf : W → Option Key
  | .int i => some (.inl i)
  | .str x => some (.inr x)
  | _ => none
def keysOf : List W → Option (List Key)
  | [] => some []
  | w :: ws => match keyOf w, keysOf ws with
    | some v, some vs => some (v :: vs)
    | _, _ => none
theorem Rn.key {K : PySem.W.Frag} {mg : Str → Option Value} {io : List Addr} {M : Addr → Prop} {H : Hp} {w : W} {v : V} {k : Key} (h : Rn K mg io M H w v) (e : keyOf w = some k) : v = kV k := by
  rcases h with h | ⟨c, o, a, rfl, rfl, ha, hc⟩
  · cases h <;> simp [keyOf] at e <;> subst e <;> rfl
  · cases c <;> simp [keyOf] at e
theorem Rws.keys {K : PySem.W.Frag} {mg : Str → Option Value} {io : List Addr} {M : Addr → Prop} {H : Hp} : ∀ {ws : List W} {vs : List V} {ks : List Key}, Rws K mg io M H ws vs → keysOf ws = some ks → vs = ks.map kV
  | [], vs, ks, h, e => by
    rw [h.nil_inv]
    simp only [keysOf, Option.some.injEq] at e
    subst e
    rfl
  | w :: ws, vs, ks, h, e => by
    obtain ⟨v, r, rfl, h1, h2⟩ := h.cons_inv
    simp only [keysOf] at e
    cases e1 : keyOf w with
    | none => rw [e1] at e; simp at e
    | some u =>
      cases e2 : keysOf ws with
      | none => rw [e1, e2] at e; simp at e
      | some us' =>
        rw [e1, e2] at e
        simp only [Option.some.injEq] at e
        subst e
        rw [(Rn.key (.inl h1) e1), Rws.keys h2 e2]
        rfl
def tkOf : W → Option (List Key)
  | .tup (w :: ws) => keysOf (w :: ws)
  | _ => none
def valW {κ : Type} [DecidableEq κ] (kvs : List (κ × W)) (k : κ) : Option W := (kvs.find? fun kv => decide (kv.1 = k)).map (·.2)
theorem Rkv.valW {κ : Type} [DecidableEq κ] {K : PySem.W.Frag} {mg : Str → Option Value} {io : List Addr} {M : Addr → Prop} {H : Hp} {k : κ} : ∀ {ws : List (κ × W)} {vs : List (κ × V)}, Rkv K mg io M H ws vs →
    (Z.valW ws k).isSome = (valV vs k).isSome ∧ ∀ w, Z.valW ws k = some w → ∃ v, valV vs k = some v ∧ Rw K mg io M H w v
  | [], vs, h => by rw [h.nil_inv]; exact ⟨rfl, fun w e => by simp [Z.valW] at e⟩
  | (k', w') :: ws, vs, h => by
    obtain ⟨v, r, rfl, h1, h2⟩ := h.cons_inv
    by_cases q : k' = k
    · refine ⟨?_, fun w e => ?_⟩
      · rw [valV_pos (p := (k', v)) q]; simp [Z.valW, q]
      · simp [Z.valW, q] at e
        subst e
        exact ⟨v, valV_pos (p := (k', v)) q, h1⟩
    · obtain ⟨i1, i2⟩ := Rkv.valW h2
      have e0 : Z.valW ((k', w') :: ws) k = Z.valW ws k := by simp [Z.valW, q]
      rw [e0, valV_neg (p := (k', v)) q]
      exact ⟨i1, i2⟩
/-- a dict asked for a key -/
def dLook : W → W → Option (Option W)
  | .dK kvs, k => (keyOf k).map fun k => valW kvs k
  | .dT kvs, k => (tkOf k).map fun k => valW kvs k
  | .dF kvs, k => (tkOf k).map fun k => valW kvs k
  | _, _ => none
theorem tk_inv {k : W} {ks : List Key} (h : tkOf k = some ks) : ∃ w ws, k = .tup (w :: ws) ∧ keysOf (w :: ws) = some ks := by
  unfold tkOf at h
  split at h
  · exact ⟨_, _, rfl, h⟩
  · cases h
theorem dLook_ok {K : PySem.W.Frag} {mg : Str → Option Value} {io : List Addr} {M : Addr → Prop} {H : Hp} {d k : W} {vd vk : V} {r : Option W} (hd : Rn K mg io M H d vd) (hk : Rn K mg io M H k vk) (e : dLook d k = some r) :
    ∃ a o, vd = .ref a ∧ DGet H a vk o ∧ o.isSome = r.isSome ∧ ∀ w, r = some w → ∃ v, o = some v ∧ Rw K mg io M H w v := by
  unfold dLook at e
  split at e
  · obtain ⟨k', e1, rfl⟩ := Option.map_eq_some_iff.mp e
    obtain ⟨a, vs, rfl, ha, rr⟩ := hd.dK
    obtain ⟨i1, i2⟩ := rr.valW (k := k')
    exact ⟨a, valV vs k', rfl, .inl ⟨vs, k', ha, hk.key e1, rfl⟩, i1.symm, i2⟩
  · obtain ⟨k', e1, rfl⟩ := Option.map_eq_some_iff.mp e
    obtain ⟨a, vs, rfl, ha, rr⟩ := hd.dT
    obtain ⟨i1, i2⟩ := rr.valW (k := k')
    obtain ⟨w, ws, rfl, e2⟩ := tk_inv e1
    obtain ⟨b, us, rfl, hb, r2⟩ := hk.tup1
    exact ⟨a, valV vs k', rfl, .inr ⟨vs, k', b, ha, rfl, by rw [hb, r2.keys e2], rfl⟩, i1.symm, i2⟩
  · obtain ⟨k', e1, rfl⟩ := Option.map_eq_some_iff.mp e
    obtain ⟨a, ob, vs, rfl, ha, _, rr⟩ := hd.dF
    obtain ⟨i1, i2⟩ := rr.valW (k := k')
    obtain ⟨w, ws, rfl, e2⟩ := tk_inv e1
    obtain ⟨b, us, rfl, hb, r2⟩ := hk.tup1
    exact ⟨a, valV vs k', rfl, .inr ⟨vs, k', b, .inr ⟨ob, ha⟩, rfl, by rw [hb, r2.keys e2], rfl⟩, i1.symm, i2⟩
  · cases e
def fInD (neg : Bool) : W → W → Option OR := fun k d => (dLook d k).map fun r => .imm (.bl (r.isSome != neg))
theorem om_inDict (hu : X.A.units + 1 < cLine) : OpM X (compareOp .In) (fInD false) := by
  refine ⟨fun y x H Q => ∃ a o, x = .ref a ∧ DGet H a y o ∧ Q (.bl o.isSome) H, ?_, fun io M H x y vx vy z Q rx ry e q => ?_⟩
  · intro pins s σ H x y v u Q I rx ry h
    obtain ⟨a, o, rfl, g, q⟩ := h
    cases ry
    exact d_in hu I g rx fun s' I' => ⟨.bl o.isSome, H, I', rfl, q⟩
  · obtain ⟨r, e1, rfl⟩ := Option.map_eq_some_iff.mp e
    obtain ⟨a, o, rfl, g, h1, _⟩ := dLook_ok ry rx e1
    refine ⟨a, o, rfl, g, ?_⟩
    rw [h1]
    simpa using q _ (.bl _)
theorem om_notInDict (hu : X.A.units + 1 < cLine) : OpM X (compareOp .NotIn) (fInD true) := by
  refine ⟨fun y x H Q => ∃ a o, x = .ref a ∧ DGet H a y o ∧ Q (.bl (!o.isSome)) H, ?_, fun io M H x y vx vy z Q rx ry e q => ?_⟩
  · intro pins s σ H x y v u Q I rx ry h
    obtain ⟨a, o, rfl, g, q⟩ := h
    cases ry
    exact d_notIn hu I g rx fun s' I' => ⟨.bl (!o.isSome), H, I', rfl, q⟩
  · obtain ⟨r, e1, rfl⟩ := Option.map_eq_some_iff.mp e
    obtain ⟨a, o, rfl, g, h1, _⟩ := dLook_ok ry rx e1
    refine ⟨a, o, rfl, g, ?_⟩
    rw [h1]
    have := q _ (.bl _)
    rwa [Bool.bne_true] at this
def fIn (neg : Bool) : W → W → Option OR := orf (fInL neg) (orf (fInT neg) (fInD neg))
theorem om_in (hu : X.A.units + 65 < cLine) : OpM X (compareOp .In) (fIn false) := (om_inL hu).or (om_inT.or (om_inDict (by omega)))
theorem om_notIn (hu : X.A.units + 65 < cLine) : OpM X (compareOp .NotIn) (fIn true) := (om_notInL hu).or (om_notInT.or (om_notInDict (by omega)))

/-! ### subscripts -/
def IxM (X : Cx) (f : W → W → Option OR) : Prop :=
  ∃ r : R2, IxR X r ∧ ∀ io M H x y vx vy z Q, Rn X.K X.mg io M H x vx → Rn X.K X.mg io M H y vy → f x y = some z → OQ X.K X.mg io M H z Q → r vx vy H Q
theorem IxM.or {f f' : W → W → Option OR} (h : IxM X f) (h' : IxM X f') : IxM X (orf f f') := by
  obtain ⟨r, a, b⟩ := h
  obtain ⟨r', a', b'⟩ := h'
  refine ⟨_, a.or a', fun io M H x y vx vy z Q rx ry e q => ?_⟩
  unfold orf at e
  cases k : f x y with
  | some z' =>
    rw [k] at e
    cases e
    exact .inl (b io M H x y vx vy z Q rx ry k q)
  | none =>
    rw [k] at e
    exact .inr (b' io M H x y vx vy z Q rx ry e q)
theorem Rws.atI {K : PySem.W.Frag} {mg : Str → Option Value} {io : List Addr} {M : Addr → Prop} {H : Hp} {ws : List W} {vs : List V} {i : Int} {w : W} (r : Rws K mg io M H ws vs) (e : L2.atI ws i = some w) : ∃ v, L2.atI vs i = some v ∧ Rw K mg io M H w v := by
  unfold L2.atI at e ⊢
  obtain ⟨j, e1, e2⟩ := Option.bind_eq_some_iff.mp e
  obtain ⟨v, h1, h2⟩ := r.get e2
  exact ⟨v, by rw [← r.1, e1]; exact h1, h2⟩
def fIxS : W → W → Option OR
  | .lst ws, .int i => (atI ws i).map .imm
  | .frl ws, .int i => (atI ws i).map .imm
  | .tup ws, .int i => (atI ws i).map .imm
  | .str z, .int i => if z.length ≤ sz then (atI z.cps.toList i).map fun c => .imm (.str ⟨#[c]⟩) else none
  | _, _ => none
theorem xm_seq : IxM X fIxS := by
  refine ⟨_, ix_seq, fun io M H x y vx vy z Q rx ry e q => ?_⟩
  unfold fIxS at e
  split at e
  · obtain ⟨w, e1, rfl⟩ := Option.map_eq_some_iff.mp e
    obtain ⟨a, vs, rfl, ha, r⟩ := rx.lst
    obtain ⟨v, h1, h2⟩ := r.atI e1
    exact .inl ⟨a, vs, _, v, rfl, ry.int, SqL.of ha, h1, q v h2⟩
  · obtain ⟨w, e1, rfl⟩ := Option.map_eq_some_iff.mp e
    obtain ⟨a, vs, rfl, ha, r⟩ := rx.frl
    obtain ⟨v, h1, h2⟩ := r.atI e1
    exact .inl ⟨a, vs, _, v, rfl, ry.int, ha, h1, q v h2⟩
  · obtain ⟨w, e1, rfl⟩ := Option.map_eq_some_iff.mp e
    obtain ⟨a, vs, rfl, ha, r⟩ := rx.tup
    obtain ⟨v, h1, h2⟩ := r.atI e1
    exact .inr (.inl ⟨a, vs, _, v, rfl, ry.int, ha, h1, q v h2⟩)
  · split at e
    · rename_i hz
      obtain ⟨w, e1, rfl⟩ := Option.map_eq_some_iff.mp e
      exact .inr (.inr ⟨_, _, w, rx.str, ry.int, by rw [sz_eq]; exact hz, e1, q _ (.str _)⟩)
    · cases e
  · cases e
def fIxD : W → W → Option OR := fun d k => (dLook d k).bind fun r => r.map .imm
theorem xm_dict (hu : X.A.units + 1 < cLine) : IxM X fIxD := by
  refine ⟨fun x y H Q => ∃ a v, x = .ref a ∧ DGet H a y (some v) ∧ Q v H, ?_, fun io M H x y vx vy z Q rx ry e q => ?_⟩
  · intro value slice pins s σ H x y v u Q I rx ry h hs
    obtain ⟨a, z, rfl, g, q⟩ := h
    cases rx
    exact tail_any (dict_typeIs I g) PySem.F.slot_dict_getitem.lookup (d_getItem hu I g ry fun w' s' I' r => ⟨z, H, I', r, q⟩) hs
  · obtain ⟨r, e1, e2⟩ := Option.bind_eq_some_iff.mp e
    obtain ⟨w, rfl, rfl⟩ := Option.map_eq_some_iff.mp e2
    obtain ⟨a, o, rfl, g, _, h2⟩ := dLook_ok rx ry e1
    obtain ⟨v, rfl, hv⟩ := h2 w rfl
    exact ⟨a, v, rfl, g, q v hv⟩
def fIx : W → W → Option OR := orf fIxS fIxD
theorem xm_ix (hu : X.A.units + 1 < cLine) : IxM X fIx := xm_seq.or (xm_dict hu)
end
section
variable {X : Cx} {ea : EA} {Wx : WX} {a b c : Expr} {ma mb mc : Mo RV} {pos : Pos}
theorem pee_ix {f : W → W → Option OR} (ho : IxM X f) (ha : Pee X ea Wx a ma) (hb : Pee X ea Wx b mb) (hs : PlainIx b := by exact fun _ _ => rfl) : Pee X ea Wx (.Subscript a b pos) (mBin f ma mb) := by
  obtain ⟨ta, pa, ra⟩ := ha.ex
  obtain ⟨tb, pb, rb⟩ := hb.ex
  obtain ⟨r, h1, h2⟩ := ho
  exact ⟨_, pe_ix h1 pa pb hs, ref_op (X := X) (g := fun _ _ => pure .none) h2 ra rb⟩
end
end Z

set_option Elab.async false
set_option linter.all false
set_option maxRecDepth 100000
/-! Z6: arguments, displays, calls of built-ins, of own defs. -/
namespace Z
open PySem PySem.Spec PyProof.Rows L2
section
variable {K : PySem.W.Frag} {mg : Str → Option Value} {ea : EA} {io io' : List Addr} {Fr Fr' : Addr → Prop} {s s' s2 : S} {σ σ' : L2.St} {H H' : Hp} {w : W} {v : V} {c : Cell} {o : HO} {a p : Addr}
def mNil : Mo (List RV) := ret []
def mCons (m : Mo RV) (ms : Mo (List RV)) : Mo (List RV) := bnd m fun x => bnd ms fun xs => ret (settle x :: xs)
def freezeAll : List RV → Mo (List W)
  | [] => ret []
  | x :: xs => bnd (freeze x) fun w => bnd (freezeAll xs) fun ws => ret (w :: ws)
def lookAll : List RV → Mo (List W)
  | [] => ret []
  | x :: xs => bnd (look x) fun w => bnd (lookAll xs) fun ws => ret (w :: ws)
variable {Wx : WX}
theorem ref_nil : RefA K mg ea Wx tNil mNil := by
  intro σ H io Fr s S0 r0 s' e Q hok hex
  cases e
  exact hok _ rfl [] H io ⟨S0, .refl⟩ .nil
theorem ref_cons {te : TE} {m : Mo RV} {ta : TA} {ms : Mo (List RV)} (h : RefE K mg ea Wx te m) (t : RefA K mg ea Wx ta ms) : RefA K mg ea Wx (tCons te ta) (mCons m ms) := by
  intro σ H io Fr s S0 r0 s' e Q hok hex
  rcases bnd_some e with ⟨x, e1, rfl⟩ | ⟨x, s1, e1, e2⟩
  · exact h σ H io Fr s S0 _ _ e1 _ (fun _ q => by cases q) fun x' q cls d H' io' px => by
      cases q
      exact hex _ rfl cls d H' io' px
  · refine h σ H io Fr s S0 _ _ e1 _ (fun x' q vx H1 io1 px => ?_) (fun _ q => by cases q)
    cases q
    obtain ⟨S1, T1, R1⟩ := px.settled
    rcases bnd_some e2 with ⟨y, e3, rfl⟩ | ⟨ys, s2, e3, e4⟩
    · exact t σ H1 io1 Fr s1 S1 _ _ e3 _ (fun _ q => by cases q) fun x' q cls d H' io' py => by
        cases q
        exact hex _ rfl cls d H' io' ⟨py.1, T1.trans py.2.1, py.2.2⟩
    · refine t σ H1 io1 Fr s1 S1 _ _ e3 _ (fun y' q vy H2 io2 py R2 => ?_) (fun _ q => by cases q)
      cases q
      cases e4
      exact hok _ rfl _ H2 io2 ⟨py.1, T1.trans py.2⟩ (.cons (R1.pers py.2.p) R2)
theorem RvR.less {x : RV} {M M' : Addr → Prop} (h : ∀ b, M' b → M b) (r : RvR K mg io M σ H x v) : RvR K mg io M' σ H x v := r.pers (.less h)
theorem paired_mono {α β : Type} {F G : α → β → Prop} (h : ∀ a b, F a b → G a b) {xs : List α} {ys : List β} (p : Paired F xs ys) : Paired G xs ys := Paired.mapP p h
theorem freezeAll_ok : ∀ {xs : List RV} {vs : List V} {s s' : S} {r : Except Ex (List W)}, Sim K mg ea io Fr s σ H → Paired (RvR K mg io (Ms io Fr s σ) σ H) xs vs → freezeAll xs s = some (r, s') →
    s'.G = s.G ∧ (∀ b, Ms io Fr s' σ b → Ms io Fr s σ b) ∧ Sim K mg ea io Fr s' σ H ∧ ∃ ws, r = .ok ws ∧ Rws K mg io (Ms io Fr s' σ) H ws vs
  | [], vs, s, s', r, S0, p, e => by
    cases p
    cases e
    exact ⟨rfl, fun _ z => z, S0, [], rfl, Rws.nil⟩
  | x :: xs, vs, s, s', r, S0, p, e => by
    cases p with
    | cons p1 p2 =>
      rename_i v vs
      rcases bnd_some e with ⟨z, e1, rfl⟩ | ⟨w, s1, e1, e2⟩
      · obtain ⟨_, _, _, _, q, _⟩ := freeze_ok S0 p1 e1
        cases q
      · obtain ⟨g1, m1, S1, w', q, r1⟩ := freeze_ok S0 p1 e1
        cases q
        rcases bnd_some e2 with ⟨z, e3, rfl⟩ | ⟨ws, s2, e3, e4⟩
        · obtain ⟨_, _, _, _, q, _⟩ := freezeAll_ok S1 (paired_mono (fun a b z => z.less m1) p2) e3
          cases q
        · obtain ⟨g2, m2, S2, ws', q, r2⟩ := freezeAll_ok S1 (paired_mono (fun a b z => z.less m1) p2) e3
          cases q
          cases e4
          exact ⟨g2.trans g1, fun b z => m1 b (m2 b z), S2, _, rfl, Rws.cons (r1.pers (.less m2)) r2⟩
theorem lookAll_ok : ∀ {xs : List RV} {vs : List V} {s s' : S} {r : Except Ex (List W)}, Sim K mg ea io Fr s σ H → Paired (RvR K mg io (Ms io Fr s σ) σ H) xs vs → lookAll xs s = some (r, s') →
    s' = s ∧ ∃ ws, r = .ok ws ∧ Paired (Rn K mg io (Ms io Fr s σ) H) ws vs
  | [], vs, s, s', r, S0, p, e => by
    cases p
    cases e
    exact ⟨rfl, [], rfl, .nil⟩
  | x :: xs, vs, s, s', r, S0, p, e => by
    cases p with
    | cons p1 p2 =>
      rename_i v vs
      rcases bnd_some e with ⟨z, e1, rfl⟩ | ⟨w, s1, e1, e2⟩
      · obtain ⟨_, _, q, _⟩ := look_ok S0 p1 e1
        cases q
      · obtain ⟨rfl, w', q, r1⟩ := look_ok S0 p1 e1
        cases q
        rcases bnd_some e2 with ⟨z, e3, rfl⟩ | ⟨ws, s2, e3, e4⟩
        · obtain ⟨_, _, q, _⟩ := lookAll_ok S0 p2 e3
          cases q
        · obtain ⟨rfl, ws', q, r2⟩ := lookAll_ok S0 p2 e3
          cases q
          cases e4
          exact ⟨rfl, _, rfl, .cons r1 r2⟩
/-- an argument list, then what it asks -/
theorem arg2 {α : Type} {ta : TA} {ms : Mo (List RV)} (ha : RefA K mg ea Wx ta ms) (S0 : Sim K mg ea io Fr s σ H) {f : List RV → Mo α} {r : Except Ex α} (e : bnd ms f s = some (r, s'))
    (hex : ∀ x, r = .error x → ∀ cls d H' io', PostX K mg ea io Fr s σ H s' σ io' H' x cls d → Wx cls d σ H')
    {R : List V → Hp → Prop} (hR : ∀ xs vs s1 H1 io1, f xs s1 = some (r, s') → PostS K mg ea io Fr s σ H s1 σ io1 H1 → Paired (RvR K mg io1 (Ms io1 Fr s1 σ) σ H1) xs vs → R vs H1) : ta σ H R := by
  rcases bnd_some e with ⟨x, e1, rfl⟩ | ⟨b, s1, e1, e2⟩
  · exact ha σ H io Fr s S0 _ _ e1 _ (fun _ q => by cases q) fun x' q cls d H' io' px => by
      cases q
      exact hex _ rfl cls d H' io' px
  · refine ha σ H io Fr s S0 _ _ e1 _ (fun x' q vs H1 io1 px R1 => ?_) (fun _ q => by cases q)
    cases q
    exact hR _ vs s1 H1 io1 e2 px R1
/-- one result, then what it asks -/
theorem one2 {α : Type} {ta : TE} {m : Mo RV} (ha : RefE K mg ea Wx ta m) (S0 : Sim K mg ea io Fr s σ H) {f : RV → Mo α} {r : Except Ex α} (e : bnd m f s = some (r, s'))
    (hex : ∀ x, r = .error x → ∀ cls d H' io', PostX K mg ea io Fr s σ H s' σ io' H' x cls d → Wx cls d σ H')
    {R : V → Hp → Prop} (hR : ∀ x v s1 H1 io1, f x s1 = some (r, s') → PostE K mg ea io Fr s σ H s1 io1 H1 x v → R v H1) : ta σ H R := by
  rcases bnd_some e with ⟨x, e1, rfl⟩ | ⟨b, s1, e1, e2⟩
  · exact ha σ H io Fr s S0 _ _ e1 _ (fun _ q => by cases q) fun x' q cls d H' io' px => by
      cases q
      exact hex _ rfl cls d H' io' px
  · refine ha σ H io Fr s S0 _ _ e1 _ (fun x' q v H1 io1 px => ?_) (fun _ q => by cases q)
    cases q
    exact hR _ v s1 H1 io1 e2 px
theorem Stp.lessM {M M' M2 : Addr → Prop} (x : Stp io M Fr H io' M' H') (h : ∀ b, M2 b → M' b) : Stp io M Fr H io' M2 H' := x.less h

def mDisp (k : List W → RV) (ms : Mo (List RV)) : Mo RV := bnd ms fun xs => bnd (freezeAll xs) fun ws => if ws.length ≤ sz then ret (k ws) else stk
def mTup : Mo (List RV) → Mo RV := mDisp fun ws => .val (.tup ws)
def mLst : Mo (List RV) → Mo RV := mDisp fun ws => .own (.lst ws)
theorem ref_tup {ta : TA} {ms : Mo (List RV)} (ha : RefA K mg ea Wx ta ms) : RefE K mg ea Wx (tTup ta) (mTup ms) := by
  intro σ H io Fr s S0 r0 s' e Q hok hex
  refine arg2 ha S0 e hex fun xs vs s1 H1 io1 e2 px R1 => ?_
  rcases bnd_some e2 with ⟨x, e3, rfl⟩ | ⟨ws, s2, e3, e4⟩
  · obtain ⟨_, _, _, _, q, _⟩ := freezeAll_ok px.1 R1 e3
    cases q
  · obtain ⟨g, m, S2, ws', q, r2⟩ := freezeAll_ok px.1 R1 e3
    cases q
    split at e4
    · rename_i hz
      cases e4
      have := OQ.post (z := .newt ws) S2 (px.2.lessM m) fun v H3 io3 q => hok _ rfl v H3 io3 q
      exact ⟨by rw [sz_eq, ← r2.1]; exact hz, fun p hp => this p vs hp r2⟩
    · cases e4
theorem ref_lst {ta : TA} {ms : Mo (List RV)} (ha : RefA K mg ea Wx ta ms) : RefE K mg ea Wx (tLst ta) (mLst ms) := by
  intro σ H io Fr s S0 r0 s' e Q hok hex
  refine arg2 ha S0 e hex fun xs vs s1 H1 io1 e2 px R1 => ?_
  rcases bnd_some e2 with ⟨x, e3, rfl⟩ | ⟨ws, s2, e3, e4⟩
  · obtain ⟨_, _, _, _, q, _⟩ := freezeAll_ok px.1 R1 e3
    cases q
  · obtain ⟨g, m, S2, ws', q, r2⟩ := freezeAll_ok px.1 R1 e3
    cases q
    split at e4
    · rename_i hz
      cases e4
      have := OQ.post (z := .newl ws) S2 (px.2.lessM m) fun v H3 io3 q => hok _ rfl v H3 io3 q
      exact ⟨by rw [sz_eq, ← r2.1]; exact hz, fun p hp => this p vs hp r2⟩
    · cases e4
/-! ### built-ins -/
def CallM (X : Cx) (g : Value) (f : List W → Option OR) : Prop :=
  ∃ r : List V → Hp → VK → Prop, CallR X g r ∧ ∀ io M H ws vs z Q, Paired (Rn X.K X.mg io M H) ws vs → f ws = some z → OQ X.K X.mg io M H z Q → r vs H Q
def mCB (f : List W → Option OR) (ms : Mo (List RV)) : Mo RV := bnd ms fun xs => bnd (lookAll xs) fun ws => liftO (f ws)
theorem ref_cb {ta : TA} {ms : Mo (List RV)} {f : List W → Option OR} {r : List V → Hp → VK → Prop} (hr : ∀ io M H ws vs z Q, Paired (Rn K mg io M H) ws vs → f ws = some z → OQ K mg io M H z Q → r vs H Q)
    (ha : RefA K mg ea Wx ta ms) : RefE K mg ea Wx (tCB r ta) (mCB f ms) := by
  intro σ H io Fr s S0 r0 s' e Q hok hex
  refine arg2 ha S0 e hex fun xs vs s1 H1 io1 e2 px R1 => ?_
  rcases bnd_some e2 with ⟨x, e3, rfl⟩ | ⟨ws, s2, e3, e4⟩
  · obtain ⟨_, _, q, _⟩ := lookAll_ok px.1 R1 e3
    cases q
  · obtain ⟨rfl, ws', q, r2⟩ := lookAll_ok px.1 R1 e3
    cases q
    obtain ⟨rfl, u, hu, rfl⟩ := liftO_some e4
    exact hr _ _ _ _ _ _ _ r2 hu (OQ.post px.1 px.2 fun v H3 io3 q => hok _ rfl v H3 io3 q)
def or1 {α γ : Type} (f g : α → Option γ) : α → Option γ := fun x => match f x with
  | some z => some z
  | none => g x
theorem CallR.or {X : Cx} {f : Value} {r r' : List V → Hp → VK → Prop} (h : CallR X f r) (h' : CallR X f r') : CallR X f (fun xs H Q => r xs H Q ∨ r' xs H Q) := by
  intro pins s σ H xs us Q I rr q
  rcases q with q | q
  · exact h pins s σ H xs us Q I rr q
  · exact h' pins s σ H xs us Q I rr q
theorem CallM.or {X : Cx} {g : Value} {f f' : List W → Option OR} (h : CallM X g f) (h' : CallM X g f') : CallM X g (or1 f f') := by
  obtain ⟨r, a, b⟩ := h
  obtain ⟨r', a', b'⟩ := h'
  refine ⟨_, CallR.or a a', fun io M H ws vs z Q rx e q => ?_⟩
  unfold or1 at e
  cases k : f ws with
  | some z' =>
    rw [k] at e
    cases e
    exact .inl (b io M H ws vs z Q rx k q)
  | none =>
    rw [k] at e
    exact .inr (b' io M H ws vs z Q rx e q)
theorem p1 {α β : Type} {F : α → β → Prop} {x : α} {ys : List β} (h : Paired F [x] ys) : ∃ y, ys = [y] ∧ F x y := by
  cases h with
  | cons h t => cases t; exact ⟨_, rfl, h⟩
theorem p2 {α β : Type} {F : α → β → Prop} {x x' : α} {ys : List β} (h : Paired F [x, x'] ys) : ∃ y y', ys = [y, y'] ∧ F x y ∧ F x' y' := by
  cases h with
  | cons h t =>
    cases t with
    | cons h' t => cases t; exact ⟨_, _, rfl, h, h'⟩
end
section
variable {X : Cx}
def fLen : List W → Option OR
  | [w] => match seqOf w with
    | some ws => some (.imm (.int (ws.length : Nat)))
    | none => match w with
      | .str x => if x.length ≤ sz then some (.imm (.int (x.length : Nat))) else none
      | .byt x => if x.size ≤ sz then some (.imm (.int (x.size : Nat))) else none
      | _ => none
  | _ => none
theorem cm_len : CallM X (.builtin "len") fLen := by
  refine ⟨_, call_len, fun io M H ws vs z Q rx e q => ?_⟩
  unfold fLen at e
  split at e
  · rename_i w
    obtain ⟨v, rfl, r⟩ := p1 rx
    split at e
    · rename_i ws hs
      cases e
      obtain ⟨a, us, rfl, h, r2⟩ := r.seq (seqOf_some hs)
      refine ⟨_, us.length, rfl, h.imp (fun h => ⟨us, h, rfl⟩) (fun h => ⟨us, h, rfl⟩), ?_⟩
      rw [← r2.1]
      exact q _ (.int _)
    · split at e
      · split at e
        · rename_i hz
          cases e
          have := r.str
          subst this
          exact ⟨_, _, rfl, ⟨by rw [sz_eq]; exact hz, rfl⟩, q _ (.int _)⟩
        · cases e
      · split at e
        · rename_i hz
          cases e
          have := r.byt
          subst this
          exact ⟨_, _, rfl, ⟨by rw [sz_eq]; exact hz, rfl⟩, q _ (.int _)⟩
        · cases e
      · cases e
  · cases e
def fList : List W → Option OR
  | [w] => (seqOf w).map .newl
  | _ => none
theorem cm_list : CallM X (.type "list") fList := by
  refine ⟨_, call_list_of, fun io M H ws vs z Q rx e q => ?_⟩
  unfold fList at e
  split at e
  · obtain ⟨v, rfl, r⟩ := p1 rx
    obtain ⟨ws, hs, rfl⟩ := Option.map_eq_some_iff.mp e
    obtain ⟨a, us, rfl, h, r2⟩ := r.seq (seqOf_some hs)
    exact ⟨a, us, rfl, h, fun l hl => q l us hl r2⟩
  · cases e
def fTuple : List W → Option OR
  | [.lst ws] => some (.newt ws)
  | [.frl ws] => some (.newt ws)
  | [.tup ws] => some (.imm (.tup ws))
  | _ => none
theorem cm_tuple : CallM X (.type "tuple") fTuple := by
  refine ⟨_, call_tuple_of, fun io M H ws vs z Q rx e q => ?_⟩
  unfold fTuple at e
  split at e
  · obtain ⟨v, rfl, r⟩ := p1 rx
    cases e
    obtain ⟨a, us, rfl, h, r2⟩ := r.lst
    exact ⟨a, us, rfl, .inl ⟨SqL.of h, fun l hl => q l us hl r2⟩⟩
  · obtain ⟨v, rfl, r⟩ := p1 rx
    cases e
    obtain ⟨a, us, rfl, h, r2⟩ := r.frl
    exact ⟨a, us, rfl, .inl ⟨h, fun l hl => q l us hl r2⟩⟩
  · obtain ⟨v, rfl, r⟩ := p1 rx
    cases e
    have rw := r.tupRw
    obtain ⟨a, us, rfl, h, r2⟩ := r.tup
    exact ⟨a, us, rfl, .inr ⟨h, q _ rw⟩⟩
  · cases e
def fInt1 : List W → Option OR
  | [.int i] => some (.imm (.int i))
  | [.bl b] => some (.imm (.int (if b then 1 else 0)))
  | _ => none
theorem cm_int : CallM X (.type "int") fInt1 := by
  refine ⟨_, call_int1, fun io M H ws vs z Q rx e q => ?_⟩
  unfold fInt1 at e
  split at e
  · obtain ⟨v, rfl, r⟩ := p1 rx
    cases e
    have := r.int
    subst this
    exact .inl ⟨_, rfl, q _ (.int _)⟩
  · obtain ⟨v, rfl, r⟩ := p1 rx
    cases e
    have := r.bl
    subst this
    exact .inr ⟨_, rfl, q _ (.int _)⟩
  · cases e
def fStr1 : List W → Option OR
  | [.int i] => if i.natAbs.log2 < 1920 then some (.imm (.str (toString i))) else none
  | _ => none
theorem cm_str : CallM X (.type "str") fStr1 := by
  refine ⟨_, call_str_int, fun io M H ws vs z Q rx e q => ?_⟩
  unfold fStr1 at e
  split at e
  · obtain ⟨v, rfl, r⟩ := p1 rx
    split at e
    · rename_i hz
      cases e
      have := r.int
      subst this
      exact ⟨_, rfl, hz, q _ (.str _)⟩
    · cases e
  · cases e
/-- lists of bools, of ints -/
def blsOf : List W → Option (List Bool)
  | [] => some []
  | .bl b :: ws => (blsOf ws).map (b :: ·)
  | _ => none
def intsOf : List W → Option (List Int)
  | [] => some []
  | .int b :: ws => (intsOf ws).map (b :: ·)
  | _ => none
theorem blsOf_ok {K : PySem.W.Frag} {mg : Str → Option Value} {io : List Addr} {M : Addr → Prop} {H : Hp} : ∀ {ws : List W} {vs : List V} {bs : List Bool}, Rws K mg io M H ws vs → blsOf ws = some bs → vs = bs.map V.bl
  | [], vs, bs, h, e => by
    rw [h.nil_inv]
    simp only [blsOf, Option.some.injEq] at e
    subst e
    rfl
  | w :: ws, vs, bs, h, e => by
    obtain ⟨v, r, rfl, h1, h2⟩ := h.cons_inv
    cases w <;> simp only [blsOf, Option.map_eq_some_iff, reduceCtorEq] at e
    obtain ⟨bs', e1, rfl⟩ := e
    cases h1
    rw [blsOf_ok h2 e1]
    rfl
theorem intsOf_ok {K : PySem.W.Frag} {mg : Str → Option Value} {io : List Addr} {M : Addr → Prop} {H : Hp} : ∀ {ws : List W} {vs : List V} {bs : List Int}, Rws K mg io M H ws vs → intsOf ws = some bs → vs = bs.map V.int
  | [], vs, bs, h, e => by
    rw [h.nil_inv]
    simp only [intsOf, Option.some.injEq] at e
    subst e
    rfl
  | w :: ws, vs, bs, h, e => by
    obtain ⟨v, r, rfl, h1, h2⟩ := h.cons_inv
    cases w <;> simp only [intsOf, Option.map_eq_some_iff, reduceCtorEq] at e
    obtain ⟨bs', e1, rfl⟩ := e
    cases h1
    rw [intsOf_ok h2 e1]
    rfl
def fAll : List W → Option OR
  | [.lst ws] => (blsOf ws).map fun bs => .imm (.bl (bs.all id))
  | _ => none
theorem cm_all (hc : X.calm = true := by rfl) : CallM X (.builtin "all") fAll := by
  refine ⟨_, cr_all hc, fun io M H ws vs z Q rx e q => ?_⟩
  unfold fAll at e
  split at e
  · obtain ⟨v, rfl, r⟩ := p1 rx
    obtain ⟨bs, e1, rfl⟩ := Option.map_eq_some_iff.mp e
    obtain ⟨a, us, rfl, h, r2⟩ := r.lst
    have := blsOf_ok r2 e1
    subst this
    exact ⟨a, bs, rfl, SqL.of h, q _ (.bl _)⟩
  · cases e
def fAny : List W → Option OR
  | [.lst ws] => (blsOf ws).map fun bs => .imm (.bl (bs.any id))
  | _ => none
theorem cm_any (hc : X.calm = true := by rfl) : CallM X (.builtin "any") fAny := by
  refine ⟨_, cr_any hc, fun io M H ws vs z Q rx e q => ?_⟩
  unfold fAny at e
  split at e
  · obtain ⟨v, rfl, r⟩ := p1 rx
    obtain ⟨bs, e1, rfl⟩ := Option.map_eq_some_iff.mp e
    obtain ⟨a, us, rfl, h, r2⟩ := r.lst
    have := blsOf_ok r2 e1
    subst this
    exact ⟨a, bs, rfl, SqL.of h, q _ (.bl _)⟩
  · cases e
def fSum : List W → Option OR
  | [.lst ws] => (intsOf ws).map fun bs => .imm (.int bs.sum)
  | _ => none
theorem cm_sum (hc : X.calm = true := by rfl) : CallM X (.builtin "sum") fSum := by
  refine ⟨_, cr_sum hc, fun io M H ws vs z Q rx e q => ?_⟩
  unfold fSum at e
  split at e
  · obtain ⟨v, rfl, r⟩ := p1 rx
    obtain ⟨bs, e1, rfl⟩ := Option.map_eq_some_iff.mp e
    obtain ⟨a, us, rfl, h, r2⟩ := r.lst
    have := intsOf_ok r2 e1
    subst this
    exact ⟨a, bs, rfl, SqL.of h, q _ (.int _)⟩
  · cases e
end
section
variable {X : Cx} {ea : EA} {Wx : WX} {e : Expr} {es : List Expr} {m : Mo RV} {ms : Mo (List RV)} {pos p : Pos}
theorem pea_nil : Pea X ea Wx [] mNil := ⟨_, pa_nil, ref_nil⟩
theorem pea_cons (ha : Pee X ea Wx e m) (hr : Pea X ea Wx es ms) (hs : starEach (e :: es) X.env = (false, eval e X.env) :: starEach es X.env := by rfl) : Pea X ea Wx (e :: es) (mCons m ms) :=
  let ⟨_, p, r⟩ := ha.ex; let ⟨_, p', r'⟩ := hr.ex; ⟨_, pa_cons p p' hs, ref_cons r r'⟩
theorem pee_tup {x1} (h : Pea X ea Wx es ms) : Pee X ea Wx (.Tuple es x1 pos) (mTup ms) := let ⟨_, p, r⟩ := h.ex; ⟨_, pe_tup p, ref_tup r⟩
theorem pee_lst (h : Pea X ea Wx es ms) : Pee X ea Wx (.List es pos) (mLst ms) := let ⟨_, p, r⟩ := h.ex; ⟨_, pe_lst p, ref_lst r⟩
theorem pee_cb {f : List W → Option OR} {id : String} {x : Str} (hc : CallM X (.builtin id) f) (hm : X.mg x = none) (ha : Pea X ea Wx (e :: es) ms) (hg : Gl X x := by rfl) (hv : bootBuiltins x = some (.builtin id) := by decide +kernel) (hn : x ≠ "__name__" := by decide) (hdb : (x == ("__debug__" : Str)) = false := by decide)
    (he : starEach (e :: es) X.env = (false, eval e X.env) :: starEach es X.env := by rfl) (hpl : (backTo pos (starEach es X.env)).any (·.1) = false := by rfl) : Pee X ea Wx (.Call (.Name x p) (e :: es) [] pos) (mCB f ms) :=
  let ⟨_, p, r⟩ := ha.ex; let ⟨_, h1, h2⟩ := hc; ⟨_, pe_callB h1 hg hm hv p hn hdb he hpl, ref_cb h2 r⟩
theorem pee_ct {f : List W → Option OR} {T : String} {x : Str} (hc : CallM X (.type T) f) (hm : X.mg x = none) (ha : Pea X ea Wx (e :: es) ms) (hg : Gl X x := by rfl) (hv : bootBuiltins x = some (.type T) := by decide +kernel) (hn : x ≠ "__name__" := by decide) (hdb : (x == ("__debug__" : Str)) = false := by decide)
    (he : starEach (e :: es) X.env = (false, eval e X.env) :: starEach es X.env := by rfl) (hpl : (backTo pos (starEach es X.env)).any (·.1) = false := by rfl) : Pee X ea Wx (.Call (.Name x p) (e :: es) [] pos) (mCB f ms) :=
  let ⟨_, p, r⟩ := ha.ex; let ⟨_, h1, h2⟩ := hc; ⟨_, pe_callTy h1 hg hm hv p hn hdb he hpl, ref_cb h2 r⟩
end
end Z

set_option Elab.async false
set_option linter.all false
set_option maxRecDepth 100000
/-! Z7: statements, targets, loops. -/
namespace Z
open PySem PySem.Spec PyProof.Rows L2
section
variable {K : PySem.W.Frag} {mg : Str → Option Value} {ea : EA} {io io' : List Addr} {Fr Fr' : Addr → Prop} {s s' s2 : S} {σ σ' : L2.St} {H H' : Hp} {w : W} {v : V} {c : Cell} {o : HO} {a p : Addr}

/-- slots kept as they stand, or forgotten -/
theorem Sim.sub {r' : List SV} (x : Sim K mg ea io Fr s σ H) (hl : r'.length = σ'.length) (h : ∀ i : Nat, (r'[i]? = s.r[i]? ∧ σ'[i]? = σ[i]?) ∨ r'[i]? = some .non ∨ r'[i]? = none) : Sim K mg ea io Fr { s with r := r' } σ' H ∧ (∀ b, Ms io Fr { s with r := r' } σ' b → Ms io Fr s σ b) := by
  have fo : ∀ b, FrO Fr r' σ' b → FrO Fr s.r σ b := fun b z => z.imp id fun ⟨i, c, h1, h2⟩ => by
    rcases h i with ⟨q1, q2⟩ | q | q
    · exact ⟨i, c, by rw [← q1]; exact h1, by rw [← q2]; exact h2⟩
    · rw [h1] at q; cases q
    · rw [h1] at q; cases q
  have le : ∀ b, Ms io Fr { s with r := r' } σ' b → Ms io Fr s σ b := fun b z => z.imp id (fo b)
  refine ⟨⟨hl, x.g.less fo, fun i w e => ?_, fun i c e => ?_, fun i j c d b e1 e2 e3 e4 => ?_, fun i y e => ?_⟩, le⟩
  · rcases h i with ⟨q1, q2⟩ | q | q
    · obtain ⟨v, h1, h2⟩ := x.val i w (by rw [← q1]; exact e)
      exact ⟨v, by rw [q2]; exact h1, h2.pers (.less le)⟩
    · rw [show r'[i]? = some (.val w) from e] at q; cases q
    · rw [show r'[i]? = some (.val w) from e] at q; cases q
  · rcases h i with ⟨q1, q2⟩ | q | q
    · obtain ⟨b, o, h1, h2, h3, h4⟩ := x.own i c (by rw [← q1]; exact e)
      exact ⟨b, o, by rw [q2]; exact h1, h2, h3.pers (.less le), h4⟩
    · rw [show r'[i]? = some (.own c) from e] at q; cases q
    · rw [show r'[i]? = some (.own c) from e] at q; cases q
  · rcases h i with ⟨q1, q2⟩ | q | q
    · rcases h j with ⟨q3, q4⟩ | q | q
      · exact x.dist i j c d b (by rw [← q1]; exact e1) (by rw [← q3]; exact e2) (by rw [← q2]; exact e3) (by rw [← q4]; exact e4)
      · rw [show r'[j]? = some (.own d) from e2] at q; cases q
      · rw [show r'[j]? = some (.own d) from e2] at q; cases q
    · rw [show r'[i]? = some (.own c) from e1] at q; cases q
    · rw [show r'[i]? = some (.own c) from e1] at q; cases q
  · rcases h i with ⟨q1, q2⟩ | q | q
    · obtain ⟨h1, h2⟩ := x.exc i y (by rw [← q1]; exact e)
      exact ⟨by rw [q2]; exact h1, h2.pers (.less le)⟩
    · rw [show r'[i]? = some (.exc y) from e] at q; cases q
    · rw [show r'[i]? = some (.exc y) from e] at q; cases q
theorem set_forget {α : Type} {l : List α} {i j : Nat} {x : α} : (l.set i x)[j]? = l[j]? ∨ (i = j ∧ (l.set i x)[j]? = some x) ∨ (l.set i x)[j]? = none := by
  by_cases e : i = j
  · subst e
    rcases Nat.lt_or_ge i l.length with q | q
    · exact .inr (.inl ⟨rfl, List.getElem?_set_self q⟩)
    · exact .inr (.inr (List.getElem?_eq_none (by simpa using q)))
  · exact .inl (List.getElem?_set_ne e)
/-- a slot forgotten -/
theorem Sim.drop1 {i : Nat} {u : Option V} (x : Sim K mg ea io Fr s σ H) : Sim K mg ea io Fr { s with r := s.r.set i .non } (σ.set i u) H ∧ (∀ b, Ms io Fr { s with r := s.r.set i .non } (σ.set i u) b → Ms io Fr s σ b) := by
  refine x.sub (by simp [x.len]) fun j => ?_
  by_cases e : i = j
  · subst e
    rcases Nat.lt_or_ge i s.r.length with q | q
    · exact .inr (.inl (List.getElem?_set_self q))
    · exact .inr (.inr (List.getElem?_eq_none (by simpa using q)))
  · exact .inl ⟨List.getElem?_set_ne e, List.getElem?_set_ne e⟩
theorem Sim.setVal {i : Nat} (x : Sim K mg ea io Fr s σ H) (h : Rw K mg io (Ms io Fr s σ) H w v) : Sim K mg ea io Fr { s with r := s.r.set i (.val w) } (σ.set i (some v)) H ∧ (∀ b, Ms io Fr { s with r := s.r.set i (.val w) } (σ.set i (some v)) b → Ms io Fr s σ b) := by
  have fo : ∀ b, FrO Fr (s.r.set i (.val w)) (σ.set i (some v)) b → FrO Fr s.r σ b := fun b z => z.imp id fun ⟨j, c, h1, h2⟩ => by
    by_cases e : i = j
    · subst e
      have := get_lt h1
      rw [List.getElem?_set_self (by simpa using this)] at h1
      cases h1
    · rw [List.getElem?_set_ne e] at h1 h2
      exact ⟨j, c, h1, h2⟩
  have le : ∀ b, Ms io Fr { s with r := s.r.set i (.val w) } (σ.set i (some v)) b → Ms io Fr s σ b := fun b z => z.imp id (fo b)
  refine ⟨⟨by simp [x.len], x.g.less fo, fun j u e => ?_, fun j c e => ?_, fun j k c d b e1 e2 e3 e4 => ?_, fun j y e => ?_⟩, le⟩
  · by_cases ij : i = j
    · subst ij
      have hi := get_lt e
      simp only [List.length_set] at hi
      rw [List.getElem?_set_self hi] at e
      cases e
      exact ⟨v, List.getElem?_set_self (by rw [← x.len]; exact hi), h.pers (.less le)⟩
    · rw [List.getElem?_set_ne ij] at e
      obtain ⟨y, h1, h2⟩ := x.val j u e
      exact ⟨y, by rw [List.getElem?_set_ne ij]; exact h1, h2.pers (.less le)⟩
  · by_cases ij : i = j
    · subst ij
      have hi := get_lt e
      simp only [List.length_set] at hi
      rw [List.getElem?_set_self hi] at e
      cases e
    · rw [List.getElem?_set_ne ij] at e
      obtain ⟨b, o, h1, h2, h3, h4⟩ := x.own j c e
      exact ⟨b, o, by rw [List.getElem?_set_ne ij]; exact h1, h2, h3.pers (.less le), h4⟩
  · by_cases ij : i = j
    · subst ij
      have hi := get_lt e1
      simp only [List.length_set] at hi
      rw [List.getElem?_set_self hi] at e1
      cases e1
    · by_cases ik : i = k
      · subst ik
        have hi := get_lt e2
        simp only [List.length_set] at hi
        rw [List.getElem?_set_self hi] at e2
        cases e2
      · rw [List.getElem?_set_ne ij] at e1 e3
        rw [List.getElem?_set_ne ik] at e2 e4
        exact x.dist j k c d b e1 e2 e3 e4
  · by_cases ij : i = j
    · subst ij
      have hi := get_lt e
      simp only [List.length_set] at hi
      rw [List.getElem?_set_self hi] at e
      cases e
    · rw [List.getElem?_set_ne ij] at e ⊢
      obtain ⟨h1, h2⟩ := x.exc j y e
      exact ⟨h1, h2.pers (.less le)⟩
theorem Sim.setOwn {i : Nat} (x : Sim K mg ea io (pls Fr a) s σ H) (ha : H a = some o) (nf : ¬ FrO Fr s.r σ a) (h : Rc K mg io (Ms io (pls Fr a) s σ) H c o) :
    Sim K mg ea io Fr { s with r := s.r.set i (.own c) } (σ.set i (some (V.ref a))) H ∧ (∀ b, Ms io Fr { s with r := s.r.set i (.own c) } (σ.set i (some (V.ref a))) b → Ms io (pls Fr a) s σ b) := by
  have fo : ∀ b, FrO Fr (s.r.set i (.own c)) (σ.set i (some (V.ref a))) b → FrO (pls Fr a) s.r σ b := fun b z => by
    rcases z with z | ⟨j, d, h1, h2⟩
    · exact .inl (.inl z)
    · by_cases e : i = j
      · subst e
        have hi := get_lt h2
        simp only [List.length_set] at hi
        rw [List.getElem?_set_self hi] at h2
        cases h2
        exact .inl (.inr rfl)
      · rw [List.getElem?_set_ne e] at h1 h2
        exact .inr ⟨j, d, h1, h2⟩
  have le : ∀ b, Ms io Fr { s with r := s.r.set i (.own c) } (σ.set i (some (V.ref a))) b → Ms io (pls Fr a) s σ b := fun b z => z.imp id (fo b)
  have nF : ¬ Fr a := fun z => nf (.inl z)
  have nO : ∀ (j : Nat) d, s.r[j]? = some (.own d) → σ[j]? = some (some (V.ref a)) → False := fun j d h1 h2 => nf (.inr ⟨j, d, h1, h2⟩)
  refine ⟨⟨by simp [x.len], x.g.less fo, fun j u e => ?_, fun j d e => ?_, fun j k d d' b e1 e2 e3 e4 => ?_, fun j y e => ?_⟩, le⟩
  · by_cases ij : i = j
    · subst ij
      have hi := get_lt e
      simp only [List.length_set] at hi
      rw [List.getElem?_set_self hi] at e
      cases e
    · rw [List.getElem?_set_ne ij] at e
      obtain ⟨y, h1, h2⟩ := x.val j u e
      exact ⟨y, by rw [List.getElem?_set_ne ij]; exact h1, h2.pers (.less le)⟩
  · by_cases ij : i = j
    · subst ij
      have hi := get_lt e
      simp only [List.length_set] at hi
      rw [List.getElem?_set_self hi] at e
      cases e
      exact ⟨a, o, List.getElem?_set_self (by rw [← x.len]; exact hi), ha, h.pers (.less le), nF⟩
    · rw [List.getElem?_set_ne ij] at e
      obtain ⟨b, o, h1, h2, h3, h4⟩ := x.own j d e
      exact ⟨b, o, by rw [List.getElem?_set_ne ij]; exact h1, h2, h3.pers (.less le), fun z => h4 (.inl z)⟩
  · by_cases ij : i = j
    · subst ij
      by_cases ik : i = k
      · exact ik
      · have hi := get_lt e3
        simp only [List.length_set] at hi
        rw [List.getElem?_set_self hi] at e3
        cases e3
        rw [List.getElem?_set_ne ik] at e2 e4
        exact (nO k d' e2 e4).elim
    · by_cases ik : i = k
      · subst ik
        have hi := get_lt e4
        simp only [List.length_set] at hi
        rw [List.getElem?_set_self hi] at e4
        cases e4
        rw [List.getElem?_set_ne ij] at e1 e3
        exact (nO j d e1 e3).elim
      · rw [List.getElem?_set_ne ij] at e1 e3
        rw [List.getElem?_set_ne ik] at e2 e4
        exact x.dist j k d d' b e1 e2 e3 e4
  · by_cases ij : i = j
    · subst ij
      have hi := get_lt e
      simp only [List.length_set] at hi
      rw [List.getElem?_set_self hi] at e
      cases e
    · rw [List.getElem?_set_ne ij] at e ⊢
      obtain ⟨h1, h2⟩ := x.exc j y e
      exact ⟨h1, h2.pers (.less le)⟩

def setM (i : Nat) (x : SV) : Mo Fl := fun s => some (.ok .nx, { s with r := s.r.set i x })
/-- what a name is given -/
def land : RV → Mo SV
  | .val w => ret (.val w)
  | .own c => ret (.own c)
  | .hnd j => bnd (freeze (.hnd j)) fun w => ret (.val w)
def mAsg (i : Nat) (m : Mo RV) : Mo Fl := bnd m fun x => bnd (land x) fun y => setM i y
variable {Wx : WX}
theorem PostF.trans {M M1 : Addr → Prop} {G' : List Cell} {io1 : List Addr} {H1 : Hp} {f : FV} (T : Stp io M Fr H io1 M1 H1) (p : PostF K mg io1 M1 Fr H1 G' io' H' f v) : PostF K mg io M Fr H G' io' H' f v := by
  cases f with
  | val w => exact ⟨p.1, T.trans p.2.1, p.2.2⟩
  | own c =>
    obtain ⟨a, o, h1, h2, h3, h4, h5, h6⟩ := p
    exact ⟨a, o, h1, h2, h3, h4, T.trans h5, h6⟩
theorem ref_asg {te : TE} {m : Mo RV} (i : Nat) (h : RefE K mg ea Wx te m) : RefS K mg ea Wx (tAsg te (gName i)) (mAsg i m) := by
  intro σ H io Fr s S0 r0 s' e D hnx hbk hct hrt hex
  refine one2 h S0 e (fun x q cls d H' io' px => hex x q cls d σ H' io' px) fun x v s1 H1 io1 e2 px => ?_
  cases x with
  | val w =>
    obtain ⟨S1, T1, R1⟩ := px
    obtain ⟨S2, l2⟩ := S1.setVal (i := i) R1
    cases e2
    exact hnx rfl _ _ _ ⟨S2, T1.less l2⟩
  | own c =>
    obtain ⟨a, o, rfl, ha, nf, S1, T1, R1⟩ := px
    obtain ⟨S2, l2⟩ := S1.setOwn (i := i) ha nf R1
    cases e2
    exact hnx rfl _ _ _ ⟨S2, T1.less l2⟩
  | hnd j =>
    obtain ⟨S1, T1, R1⟩ := px
    rcases bnd_some e2 with ⟨z, e3, rfl⟩ | ⟨y, s3, e3, e4⟩
    · rcases bnd_some e3 with ⟨z', e5, _⟩ | ⟨w', s5, e5, e6⟩
      · obtain ⟨_, _, _, _, q, _⟩ := freeze_ok S1 (x := .hnd j) (v := v) R1 e5
        cases q
      · cases e6
    · rcases bnd_some e3 with ⟨z', e5, q⟩ | ⟨w', s5, e5, e6⟩
      · cases q
      · obtain ⟨g, l, S5, w2, q, R5⟩ := freeze_ok S1 (x := .hnd j) (v := v) R1 e5
        cases q
        cases e6
        obtain ⟨S2, l2⟩ := S5.setVal (i := i) R5
        cases e4
        exact hnx rfl _ _ _ ⟨S2, T1.less fun b z => l b (l2 b z)⟩
/-! ### blocks -/
def mSeq (a b : Mo Fl) : Mo Fl := bnd a fun f => match f with
  | .nx => b
  | f => ret f
def mNext : Mo Fl := ret .nx
theorem ref_next : RefS K mg ea Wx tNext mNext := by
  intro σ H io Fr s S0 r0 s' e D hnx hbk hct hrt hex
  cases e
  exact hnx rfl _ _ _ ⟨S0, .refl⟩
theorem ref_seq {t u : TS} {a b : Mo Fl} (h : RefS K mg ea Wx t a) (h' : RefS K mg ea Wx u b) : RefS K mg ea Wx (tSeq t u) (mSeq a b) := by
  intro σ H io Fr s S0 r0 s' e D hnx hbk hct hrt hex
  rcases bnd_some e with ⟨x, e1, rfl⟩ | ⟨f, s1, e1, e2⟩
  · exact h σ H io Fr s S0 _ _ e1 _ (fun q => by cases q) (fun q => by cases q) (fun q => by cases q) (fun _ q => by cases q) fun x' q cls d σ' H' io' px => by
      cases q
      exact hex _ rfl cls d σ' H' io' px
  · cases f with
    | nx =>
      refine h σ H io Fr s S0 _ _ e1 _ (fun q σ1 H1 io1 px => ?_) (fun q => by cases q) (fun q => by cases q) (fun _ q => by cases q) (fun _ q => by cases q)
      exact h' σ1 H1 io1 Fr s1 px.1 _ _ e2 D (fun q σ2 H2 io2 py => hnx q σ2 H2 io2 ⟨py.1, px.2.trans py.2⟩) (fun q σ2 H2 io2 py => hbk q σ2 H2 io2 ⟨py.1, px.2.trans py.2⟩) (fun q σ2 H2 io2 py => hct q σ2 H2 io2 ⟨py.1, px.2.trans py.2⟩)
        (fun f q v H2 io2 py => hrt f q v H2 io2 (py.trans px.2)) fun x q cls d σ2 H2 io2 py => hex x q cls d σ2 H2 io2 ⟨py.1, px.2.trans py.2.1, py.2.2⟩
    | bk =>
      cases e2
      exact h σ H io Fr s S0 _ _ e1 _ (fun q => by cases q) hbk (fun q => by cases q) (fun _ q => by cases q) (fun _ q => by cases q)
    | ct =>
      cases e2
      exact h σ H io Fr s S0 _ _ e1 _ (fun q => by cases q) (fun q => by cases q) hct (fun _ q => by cases q) (fun _ q => by cases q)
    | rt f =>
      cases e2
      exact h σ H io Fr s S0 _ _ e1 _ (fun q => by cases q) (fun q => by cases q) (fun q => by cases q) hrt (fun _ q => by cases q)
def mBreak : Mo Fl := ret .bk
def mCont : Mo Fl := ret .ct
theorem ref_break : RefS K mg ea Wx tBreak mBreak := by
  intro σ H io Fr s S0 r0 s' e D hnx hbk hct hrt hex
  cases e
  exact hbk rfl _ _ _ ⟨S0, .refl⟩
theorem ref_cont : RefS K mg ea Wx tCont mCont := by
  intro σ H io Fr s S0 r0 s' e D hnx hbk hct hrt hex
  cases e
  exact hct rfl _ _ _ ⟨S0, .refl⟩
def mDrop (m : Mo RV) : Mo Fl := bnd m fun _ => ret .nx
theorem ref_drop {te : TE} {m : Mo RV} (h : RefE K mg ea Wx te m) : RefS K mg ea Wx (tDrop te) (mDrop m) := by
  intro σ H io Fr s S0 r0 s' e D hnx hbk hct hrt hex
  refine one2 h S0 e (fun x q cls d H' io' px => hex x q cls d σ H' io' px) fun x v s1 H1 io1 e2 px => ?_
  cases e2
  obtain ⟨S1, T1, _⟩ := px.settled
  exact hnx rfl _ _ _ ⟨S1, T1⟩
def retM : RV → Mo Fl
  | .val w => ret (.rt (.val w))
  | .own c => ret (.rt (.own c))
  | .hnd i => fun s => match s.r[i]? with
    | some (.own c) => some (.ok (.rt (.own c)), s)
    | some (.val w) => some (.ok (.rt (.val w)), s)
    | _ => none
def mRet (m : Mo RV) : Mo Fl := bnd m retM
def mRetN : Mo Fl := ret (.rt (.val .non))
theorem PostF.ofVal (S1 : Sim K mg ea io' Fr s2 σ H') {M : Addr → Prop} (T : Stp io M Fr H io' (Ms io' Fr s2 σ) H') (R : Rw K mg io' (Ms io' Fr s2 σ) H' w v) : PostF K mg io M Fr H s2.G io' H' (.val w) v := by
  have le : ∀ b, Mu io' Fr b → Ms io' Fr s2 σ b := fun b z => z.imp id .inl
  exact ⟨S1.g.less (s := s2) fun b z => .inl z, T.less le, R.pers (.less le)⟩
theorem ref_ret {te : TE} {m : Mo RV} (h : RefE K mg ea Wx te m) : RefS K mg ea Wx (tRet te) (mRet m) := by
  intro σ H io Fr s S0 r0 s' e D hnx hbk hct hrt hex
  refine one2 h S0 e (fun x q cls d H' io' px => hex x q cls d σ H' io' px) fun x v s1 H1 io1 e2 px => ?_
  cases x with
  | val w =>
    obtain ⟨S1, T1, R1⟩ := px
    cases e2
    exact hrt _ rfl _ _ _ (.ofVal S1 T1 R1)
  | own c =>
    obtain ⟨a, o, rfl, ha, nf, S1, T1, R1⟩ := px
    have le : ∀ b, Mu io1 (pls Fr a) b → Ms io1 (pls Fr a) s1 σ b := fun b z => z.imp id .inl
    have g1 := S1.g.less (s := s1) (Fr' := pls Fr a) fun b z => .inl z
    have T2 := T1.less le
    have R2 := R1.pers (.less le)
    cases e2
    exact hrt _ rfl _ _ _ ⟨a, o, rfl, ha, fun z => nf (.inl z), g1, T2, R2⟩
  | hnd i =>
    obtain ⟨S1, T1, R1⟩ := px
    simp only [retM] at e2
    split at e2
    · rename_i c q
      obtain ⟨a, o, q1, q2, q3, q4⟩ := S1.own i c q
      rw [R1] at q1
      cases q1
      have fo : ∀ b, pls Fr a b → FrO Fr s1.r σ b := fun b z => by
        rcases z with z | z
        · exact .inl z
        · exact .inr ⟨i, c, q, by rw [z]; exact R1⟩
      have le : ∀ b, Mu io1 (pls Fr a) b → Ms io1 Fr s1 σ b := fun b z => z.imp id (fo b)
      have g1 := S1.g.less (s := s1) fo
      have T2 := T1.less le
      have R2 := q3.pers (.less le)
      cases e2
      exact hrt _ rfl _ _ _ ⟨a, o, rfl, q2, q4, g1, T2, R2⟩
    · rename_i w q
      obtain ⟨u, q1, q2⟩ := S1.val i w q
      rw [R1] at q1
      cases q1
      cases e2
      exact hrt _ rfl _ _ _ (.ofVal S1 T1 q2)
    · cases e2
theorem ref_retN : RefS K mg ea Wx tRetN mRetN := by
  intro σ H io Fr s S0 r0 s' e D hnx hbk hct hrt hex
  cases e
  exact hrt _ rfl _ _ _ (.ofVal S0 .refl .non)
def mIf (c : Mo Bool) (a b : Mo Fl) : Mo Fl := bnd c fun x => if x = true then a else b
theorem ref_if {c : TT} {mc : Mo Bool} {t u : TS} {a b : Mo Fl} (hc : RefT K mg ea Wx c mc) (h : RefS K mg ea Wx t a) (h' : RefS K mg ea Wx u b) : RefS K mg ea Wx (tIfS c t u) (mIf mc a b) := by
  intro σ H io Fr s S0 r0 s' e D hnx hbk hct hrt hex
  refine tst2 hc S0 e (fun x q cls d H' io' px => hex x q cls d σ H' io' px) fun k s1 H1 io1 e2 px => ?_
  have go : ∀ {t : TS} {a : Mo Fl}, RefS K mg ea Wx t a → a s1 = some (r0, s') → t D σ H1 := fun {t a} h e2 =>
    h σ H1 io1 Fr s1 px.1 _ _ e2 D (fun q σ2 H2 io2 py => hnx q σ2 H2 io2 ⟨py.1, px.2.trans py.2⟩) (fun q σ2 H2 io2 py => hbk q σ2 H2 io2 ⟨py.1, px.2.trans py.2⟩) (fun q σ2 H2 io2 py => hct q σ2 H2 io2 ⟨py.1, px.2.trans py.2⟩)
        (fun f q v H2 io2 py => hrt f q v H2 io2 (py.trans px.2)) fun x q cls d σ2 H2 io2 py => hex x q cls d σ2 H2 io2 ⟨py.1, px.2.trans py.2.1, py.2.2⟩
  cases k with
  | true => exact go h e2
  | false => exact go h' e2
/-! ### a if t else b; and, or of values -/
def mIfE (c : Mo Bool) (a b : Mo RV) : Mo RV := bnd c fun x => if x = true then a else b
theorem PostE.trans {io1 : List Addr} {H1 : Hp} {s1 : S} {x : RV} (T : Stp io (Ms io Fr s σ) Fr H io1 (Ms io1 Fr s1 σ) H1) (p : PostE K mg ea io1 Fr s1 σ H1 s' io' H' x v) : PostE K mg ea io Fr s σ H s' io' H' x v := by
  cases x with
  | val w => exact ⟨p.1, T.trans p.2.1, p.2.2⟩
  | hnd i => exact ⟨p.1, T.trans p.2.1, p.2.2⟩
  | own c =>
    obtain ⟨a, o, h1, h2, h3, h4, h5, h6⟩ := p
    exact ⟨a, o, h1, h2, h3, h4, T.trans h5, h6⟩
theorem ref_ife {c : TT} {mc : Mo Bool} {t u : TE} {a b : Mo RV} (hc : RefT K mg ea Wx c mc) (h : RefE K mg ea Wx t a) (h' : RefE K mg ea Wx u b) : RefE K mg ea Wx (tIf c t u) (mIfE mc a b) := by
  intro σ H io Fr s S0 r0 s' e Q hok hex
  refine tst2 hc S0 e hex fun k s1 H1 io1 e2 px => ?_
  cases k with
  | true => exact h σ H1 io1 Fr s1 px.1 _ _ e2 Q (fun x q v H2 io2 py => hok x q v H2 io2 (py.trans px.2)) fun x q cls d H2 io2 py => hex x q cls d H2 io2 ⟨py.1, px.2.trans py.2.1, py.2.2⟩
  | false => exact h' σ H1 io1 Fr s1 px.1 _ _ e2 Q (fun x q v H2 io2 py => hok x q v H2 io2 (py.trans px.2)) fun x q cls d H2 io2 py => hex x q cls d H2 io2 ⟨py.1, px.2.trans py.2.1, py.2.2⟩
def mAndV (a b : Mo RV) : Mo RV := bnd (mB a) fun x => if x = true then b else ret (.val (.bl false))
def mOrV (a b : Mo RV) : Mo RV := bnd (mB a) fun x => if x = true then ret (.val (.bl true)) else b
def mNotV (a : Mo RV) : Mo RV := bnd (mB a) fun x => ret (.val (.bl (!x)))
theorem ref_andV {t u : TE} {a b : Mo RV} (h : RefE K mg ea Wx t a) (h' : RefE K mg ea Wx u b) : RefE K mg ea Wx (tAndV t u) (mAndV a b) := by
  intro σ H io Fr s S0 r0 s' e Q hok hex
  refine tst2 (ref_test h) S0 e hex fun k s1 H1 io1 e2 px => ?_
  cases k with
  | true => exact h' σ H1 io1 Fr s1 px.1 _ _ e2 Q (fun x q v H2 io2 py => hok x q v H2 io2 (py.trans px.2)) fun x q cls d H2 io2 py => hex x q cls d H2 io2 ⟨py.1, px.2.trans py.2.1, py.2.2⟩
  | false => cases e2; exact hok _ rfl _ _ _ ⟨px.1, px.2, .bl _⟩
theorem ref_orV {t u : TE} {a b : Mo RV} (h : RefE K mg ea Wx t a) (h' : RefE K mg ea Wx u b) : RefE K mg ea Wx (tOrV t u) (mOrV a b) := by
  intro σ H io Fr s S0 r0 s' e Q hok hex
  refine tst2 (ref_test h) S0 e hex fun k s1 H1 io1 e2 px => ?_
  cases k with
  | false => exact h' σ H1 io1 Fr s1 px.1 _ _ e2 Q (fun x q v H2 io2 py => hok x q v H2 io2 (py.trans px.2)) fun x q cls d H2 io2 py => hex x q cls d H2 io2 ⟨py.1, px.2.trans py.2.1, py.2.2⟩
  | true => cases e2; exact hok _ rfl _ _ _ ⟨px.1, px.2, .bl _⟩
theorem ref_notV {t : TE} {a : Mo RV} (h : RefE K mg ea Wx t a) : RefE K mg ea Wx (tNotV t) (mNotV a) := by
  intro σ H io Fr s S0 r0 s' e Q hok hex
  refine tst2 (ref_test h) S0 e hex fun k s1 H1 io1 e2 px => ?_
  cases e2
  exact hok _ rfl _ _ _ ⟨px.1, px.2, .bl _⟩
/-! ### targets -/
structure RefG (K : PySem.W.Frag) (mg : Str → Option Value) (ea : EA) (g : TG) (tg : W → Mo Unit) (vs : List Nat) : Prop where
  ne : ∀ w s r s', tg w s = some (r, s') → r = .ok ()
  go : ∀ (σ : L2.St) (H : Hp) (io : List Addr) (Fr : Addr → Prop) (s : S) (w : W) (v : V), Sim K mg ea io Fr s σ H → Rw K mg io (Ms io Fr s σ) H w v →
    ∀ r s', tg w s = some (r, s') → ∀ Q : L2.St → Hp → Prop, (∀ σ', Sim K mg ea io Fr s' σ' H → (∀ b, Ms io Fr s' σ' b → Ms io Fr s σ b) → σ'.length = σ.length → (∀ j, j ∉ vs → σ'[j]? = σ[j]?) → Q σ' H) → g v σ H Q
structure RefGs (K : PySem.W.Frag) (mg : Str → Option Value) (ea : EA) (g : TGs) (tg : List W → Mo Unit) (vs : List Nat) : Prop where
  ne : ∀ w s r s', tg w s = some (r, s') → r = .ok ()
  go : ∀ (σ : L2.St) (H : Hp) (io : List Addr) (Fr : Addr → Prop) (s : S) (ws : List W) (us : List V), Sim K mg ea io Fr s σ H → Rws K mg io (Ms io Fr s σ) H ws us →
    ∀ r s', tg ws s = some (r, s') → ∀ Q : L2.St → Hp → Prop, (∀ σ', Sim K mg ea io Fr s' σ' H → (∀ b, Ms io Fr s' σ' b → Ms io Fr s σ b) → σ'.length = σ.length → (∀ j, j ∉ vs → σ'[j]? = σ[j]?) → Q σ' H) → g us σ H Q
def tgN (i : Nat) (w : W) : Mo Unit := fun s => some (.ok (), { s with r := s.r.set i (.val w) })
def tgsNil : List W → Mo Unit
  | [] => ret ()
  | _ => stk
def tgsCons (t : W → Mo Unit) (u : List W → Mo Unit) : List W → Mo Unit
  | w :: ws => bnd (t w) fun _ => u ws
  | [] => stk
def tgT (n : Nat) (u : List W → Mo Unit) : W → Mo Unit
  | .tup ws => if ws.length = n then u ws else stk
  | _ => stk
theorem ref_tgN (i : Nat) : RefG K mg ea (gName i) (tgN i) [i] where
  ne := fun w s r s' e => by cases e; rfl
  go := by
    intro σ H io Fr s w v S0 R r s' e
    cases e
    intro Q hq
    obtain ⟨S1, l⟩ := S0.setVal (i := i) R
    exact hq _ S1 l (by simp) fun j hj => List.getElem?_set_ne fun z => hj (by simp [z])
theorem ref_tgsNil : RefGs K mg ea gNil tgsNil [] where
  ne := fun w s r s' e => by
    cases w with
    | nil => cases e; rfl
    | cons _ _ => cases e
  go := by
    intro σ H io Fr s ws vs S0 R r s' e
    cases ws with
    | nil => cases e; exact fun Q hq => ⟨R.nil_inv, hq σ S0 (fun _ z => z) rfl fun _ _ => rfl⟩
    | cons w ws => cases e
theorem ref_tgsCons {t : TG} {u : TGs} {tm : W → Mo Unit} {um : List W → Mo Unit} {l1 l2 : List Nat} (h : RefG K mg ea t tm l1) (h' : RefGs K mg ea u um l2) : RefGs K mg ea (gCons t u) (tgsCons tm um) (l1 ++ l2) where
  ne := fun w s r s' e => by
    cases w with
    | nil => cases e
    | cons w ws =>
      rcases bnd_some e with ⟨x, e1, rfl⟩ | ⟨_, s1, e1, e2⟩
      · have := h.ne _ _ _ _ e1
        cases this
      · exact h'.ne _ _ _ _ e2
  go := by
    intro σ H io Fr s ws vs S0 R r s' e
    cases ws with
    | nil => cases e
    | cons w ws =>
      intro Q hq
      obtain ⟨v, r', rfl, h1, h2⟩ := R.cons_inv
      refine ⟨v, r', rfl, ?_⟩
      rcases bnd_some e with ⟨x, e1, rfl⟩ | ⟨_, s1, e1, e2⟩
      · have := h.ne _ _ _ _ e1
        cases this
      · refine h.go σ H io Fr s w v S0 h1 _ _ e1 _ fun σ1 S1 l1 n1 k1 => ?_
        exact h'.go σ1 H io Fr s1 ws r' S1 (h2.pers (.less l1)) _ _ e2 Q fun σ2 S2 l2 n2 k2 => hq σ2 S2 (fun b z => l1 b (l2 b z)) (n2.trans n1) fun j hj => by
          simp only [List.mem_append, not_or] at hj
          exact (k2 j hj.2).trans (k1 j hj.1)
theorem ref_tgT {n : Nat} {u : TGs} {um : List W → Mo Unit} {l : List Nat} (h : RefGs K mg ea u um l) : RefG K mg ea (gTup K n u) (tgT n um) l where
  ne := fun w s r s' e => by
    unfold tgT at e
    split at e
    · split at e
      · exact h.ne _ _ _ _ e
      · cases e
    · cases e
  go := by
    intro σ H io Fr s w v S0 R r s' e Q hq
    unfold tgT at e
    split at e
    · rename_i ws
      split at e
      · rename_i hn
        obtain ⟨a, vs, rfl, ha, r2⟩ := Rn.tup (.inl R)
        exact ⟨a, vs, rfl, ha, by rw [← r2.1]; exact hn, h.go σ H io Fr s ws vs S0 r2 _ _ e Q hq⟩
      · cases e
    · cases e
/-- target = value -/
def mAsgT (t : W → Mo Unit) (m : Mo RV) : Mo Fl := bnd m fun x => bnd (freeze (settle x)) fun w => bnd (t w) fun _ => ret .nx
theorem ref_asgT {te : TE} {g : TG} {m : Mo RV} {t : W → Mo Unit} {l : List Nat} (h : RefE K mg ea Wx te m) (hg : RefG K mg ea g t l) : RefS K mg ea Wx (tAsg te g) (mAsgT t m) := by
  intro σ H io Fr s S0 r0 s' e D hnx hbk hct hrt hex
  refine one2 h S0 e (fun x q cls d H' io' px => hex x q cls d σ H' io' px) fun x v s1 H1 io1 e2 px => ?_
  obtain ⟨S1, T1, R1⟩ := px.settled
  rcases bnd_some e2 with ⟨z, e3, _⟩ | ⟨w, s3, e3, e4⟩
  · obtain ⟨_, _, _, _, q, _⟩ := freeze_ok S1 R1 e3
    cases q
  · obtain ⟨_, l3, S3, w', q, R3⟩ := freeze_ok S1 R1 e3
    cases q
    rcases bnd_some e4 with ⟨z, e5, rfl⟩ | ⟨_, s5, e5, e6⟩
    · have := hg.ne _ _ _ _ e5
      cases this
    · refine hg.go σ H1 io1 Fr s3 _ v S3 R3 _ _ e5 _ fun σ2 S2 l2 _ _ => ?_
      cases e6
      exact hnx rfl σ2 H1 io1 ⟨S2, T1.less fun b z => l3 b (l2 b z)⟩
/-! ### what a for walks -/
/-- what is walked: the items; the cell that must hold them as long as the walk goes on -/
structure Wk where
  ws : List W
  on : Option Nat
def Wk.ok (k : Wk) (s : S) : Prop := match k.on with
  | none => True
  | some n => s.G[n]? = some (.lst k.ws)
noncomputable instance (k : Wk) (s : S) : Decidable (k.ok s) := Classical.propDecidable _
def Cn (K : PySem.W.Frag) (mg : Str → Option Value) (k : Wk) (io : List Addr) (M : Addr → Prop) (H : Hp) : Prop := match k.on with
  | none => True
  | some n => ∃ a vs, io[n]? = some a ∧ H a = some (.lst vs) ∧ Rws K mg io M H k.ws vs
theorem cn_of {k : Wk} (S0 : Sim K mg ea io Fr s σ H) (h : k.ok s) : Cn K mg k io (Ms io Fr s σ) H := by
  unfold Wk.ok at h
  unfold Cn
  split at h
  · trivial
  · rename_i n e
    have hn : n < io.length := by rw [S0.g.len]; exact get_lt h
    obtain ⟨o, ho, vs, rfl, r⟩ := S0.g.cell n io[n] _ (by simp [hn]) h
    exact ⟨_, vs, by simp [hn], ho, r⟩
structure ItG (K : PySem.W.Frag) (mg : Str → Option Value) (J : It) (k : Wk) (io : List Addr) (M : Addr → Prop) (H : Hp) : Prop where
  go : ∀ io' M' H', Pers io M H io' M' H' → Cn K mg k io' M' H' → ∀ i, i < k.ws.length → J.go i H'
  stop : ∀ io' M' H', Pers io M H io' M' H' → Cn K mg k io' M' H' → J.stop k.ws.length H'
  yld : ∀ io' M' H', Pers io M H io' M' H' → Cn K mg k io' M' H' → (∀ a, M' a → ∃ o, H' a = some o ∧ Nt o) → ∀ i x H2, J.yld i H' x H2 → ∀ w, k.ws[i]? = some w → (H2 = H' ∧ Rw K mg io' M' H' w x) ∨ ∃ p us ws', H' p = none ∧ x = .ref p ∧ w = .tup ws' ∧ H2 = upd H' p (.tup us) ∧ Rws K mg io' M' H' ws' us
def RefI (K : PySem.W.Frag) (mg : Str → Option Value) (ea : EA) (Wx : WX) (wi : TI) (m : Mo Wk) : Prop := ∀ (σ : L2.St) (H : Hp) (io : List Addr) (Fr : Addr → Prop) (s : S), Sim K mg ea io Fr s σ H → ∀ r s', m s = some (r, s') → ∀ R : It → Hp → Prop,
  (∀ k, r = .ok k → ∀ J H' io', PostS K mg ea io Fr s σ H s' σ io' H' → ItG K mg J k io' (Ms io' Fr s' σ) H' → R J H') → (∀ x, r = .error x → ∀ cls d H' io', PostX K mg ea io Fr s σ H s' σ io' H' x cls d → Wx cls d σ H') → wi σ H R
noncomputable def forL (k : Wk) : List W → (W → Mo Fl) → Mo Fl
  | [], _ => fun s => if k.ok s then some (.ok .nx, s) else none
  | w :: ws, b => fun s => if k.ok s then (bnd (b w) fun f => match f with
    | .nx => forL k ws b
    | .ct => forL k ws b
    | .bk => ret .nx
    | .rt f => ret (.rt f)) s else none
noncomputable def mFor (mi : Mo Wk) (t : W → Mo Unit) (mb : Mo Fl) : Mo Fl := bnd mi fun k => forL k k.ws fun w => bnd (t w) fun _ => mb
theorem drop_get {α : Type} : ∀ {l : List α} {i : Nat} (h : i < l.length), l.drop i = l[i] :: l.drop (i + 1)
  | [], i, h => by simp at h
  | x :: l, 0, _ => by simp
  | x :: l, i + 1, h => by simpa using drop_get (l := l) (i := i) (by simpa using h)
theorem ref_for {wi : TI} {g : TG} {tb : TS} {mi : Mo Wk} {t : W → Mo Unit} {mb : Mo Fl} {l : List Nat} (hi : RefI K mg ea Wx wi mi) (hg : RefG K mg ea g t l) (hb : RefS K mg ea Wx tb mb) : RefS K mg ea Wx (tFor wi g tb) (mFor mi t mb) := by
  intro σ H io Fr s S0 r0 s' e D hnx hbk hct hrt hex
  rcases bnd_some e with ⟨x, e1, rfl⟩ | ⟨kw, s1, e1, e2⟩
  · exact hi σ H io Fr s S0 _ _ e1 _ (fun _ q => by cases q) fun x' q cls d H' io' px => by
      cases q
      exact hex _ rfl cls d σ H' io' px
  · refine hi σ H io Fr s S0 _ _ e1 _ (fun kw' q J H1 io1 px G => ?_) (fun _ q => by cases q)
    cases q
    refine ⟨fun i m σ2 H2 => m = kw.ws.length - i ∧ i ≤ kw.ws.length ∧ ∃ io2 s2, Sim K mg ea io2 Fr s2 σ2 H2 ∧ Stp io (Ms io Fr s σ) Fr H io2 (Ms io2 Fr s2 σ2) H2 ∧ Pers io1 (Ms io1 Fr s1 σ) H1 io2 (Ms io2 Fr s2 σ2) H2 ∧
      (∀ x o, H1 x = some o → ∃ o', H2 x = some o') ∧ forL kw (kw.ws.drop i) (fun w => bnd (t w) fun _ => mb) s2 = some (r0, s'),
      ⟨kw.ws.length, by simp, Nat.zero_le _, io1, s1, px.1, px.2, .refl, fun _ o h => ⟨o, h⟩, by simpa using e2⟩, ?_⟩
    rintro i m σ2 H2 ⟨rfl, hle, io2, s2, S2, T2, P2, tk, e3⟩
    have ck : kw.ok s2 := by
      cases hd : kw.ws.drop i with
      | nil =>
        rw [hd] at e3; unfold forL at e3; split at e3
        · assumption
        · cases e3
      | cons w ws =>
        rw [hd] at e3; unfold forL at e3; split at e3
        · assumption
        · cases e3
    have cn := cn_of S2 ck
    by_cases hlt : i < kw.ws.length
    · refine .inr ⟨G.go _ _ _ P2 cn i hlt, fun σ3 H3 => ∃ io3 s3, Sim K mg ea io3 Fr s3 σ3 H3 ∧ Stp io (Ms io Fr s σ) Fr H io3 (Ms io3 Fr s3 σ3) H3 ∧ Pers io1 (Ms io1 Fr s1 σ) H1 io3 (Ms io3 Fr s3 σ3) H3 ∧
        (∀ x o, H1 x = some o → ∃ o', H3 x = some o') ∧ forL kw (kw.ws.drop (i + 1)) (fun w => bnd (t w) fun _ => mb) s3 = some (r0, s'), fun σ3 H3 ⟨io3, s3, a1, a2, a3, a4, a5⟩ => ⟨kw.ws.length - (i + 1), by omega, rfl, hlt, io3, s3, a1, a2, a3, a4, a5⟩, fun x H3 y => ?_⟩
      rw [drop_get hlt] at e3
      -- the item
      have item : ∃ io3 , Sim K mg ea io3 Fr s2 σ2 H3 ∧ Stp io2 (Ms io2 Fr s2 σ2) Fr H2 io3 (Ms io3 Fr s2 σ2) H3 ∧ Rw K mg io3 (Ms io3 Fr s2 σ2) H3 kw.ws[i] x := by
        rcases G.yld _ _ _ P2 cn (fun a z => S2.trkN z) i x H3 y kw.ws[i] (by simp [hlt]) with ⟨rfl, r⟩ | ⟨p, us, ws', hp, rfl, hw, rfl, r⟩
        · exact ⟨io2, S2, .refl, r⟩
        · obtain ⟨S3, T3⟩ := S2.laid (o := .tup us) hp
          have r' := r.pers T3.p
          refine ⟨io2, S3, T3, ?_⟩
          rw [hw]
          refine .tup (.inl ⟨upd_same, fun z => ?_⟩) r'.1 r'.2
          obtain ⟨u, e⟩ := S2.trk z
          rw [hp] at e; cases e
      obtain ⟨io3, S3, T3, R3⟩ := item
      have T23 := T2.trans T3
      have P3 := P2.trans T3.p tk
      have tk3 : ∀ x o, H1 x = some o → ∃ o', H3 x = some o' := fun x o h => let ⟨o', h'⟩ := tk x o h; T3.trk x o' h'
      unfold forL at e3
      rw [if_pos ck] at e3
      -- target and body
      have body : ∀ {rb : Except Ex Fl} {s4 : S}, (bnd (t kw.ws[i]) fun _ => mb) s2 = some (rb, s4) → ∀ D' : Ends,
          (∀ f, rb = .ok f → (f = .nx → ∀ σ4 H4 io4, Sim K mg ea io4 Fr s4 σ4 H4 → Stp io3 (Ms io3 Fr s2 σ2) Fr H3 io4 (Ms io4 Fr s4 σ4) H4 → D'.nx σ4 H4) ∧ (f = .bk → ∀ σ4 H4 io4, Sim K mg ea io4 Fr s4 σ4 H4 → Stp io3 (Ms io3 Fr s2 σ2) Fr H3 io4 (Ms io4 Fr s4 σ4) H4 → D'.bk σ4 H4) ∧
            (f = .ct → ∀ σ4 H4 io4, Sim K mg ea io4 Fr s4 σ4 H4 → Stp io3 (Ms io3 Fr s2 σ2) Fr H3 io4 (Ms io4 Fr s4 σ4) H4 → D'.ct σ4 H4) ∧ (∀ u, f = .rt u → ∀ v H4 io4, PostF K mg io3 (Ms io3 Fr s2 σ2) Fr H3 s4.G io4 H4 u v → D'.rt v H4)) →
          (∀ xx, rb = .error xx → ∀ cls d σ4 H4 io4, Sim K mg ea io4 Fr s4 σ4 H4 → Stp io3 (Ms io3 Fr s2 σ2) Fr H3 io4 (Ms io4 Fr s4 σ4) H4 → ExR K mg io4 (Ms io4 Fr s4 σ4) H4 xx cls d → Wx cls d σ4 H4) → g x σ2 H3 fun σ5 H5 => tb D' σ5 H5 := by
        intro rb s4 eb D' hok hxx
        rcases bnd_some eb with ⟨z, e5, rfl⟩ | ⟨_, s5, e5, e6⟩
        · have := hg.ne _ _ _ _ e5
          cases this
        · refine hg.go σ2 H3 io3 Fr s2 _ x S3 R3 _ _ e5 _ fun σ5 S5 l5 _ _ => ?_
          have T5 : Stp io3 (Ms io3 Fr s2 σ2) Fr H3 io3 (Ms io3 Fr s5 σ5) H3 := Stp.refl.less l5
          exact hb σ5 H3 io3 Fr s5 S5 _ _ e6 D' (fun q σ4 H4 io4 p => (hok _ q).1 rfl σ4 H4 io4 p.1 (T5.trans p.2)) (fun q σ4 H4 io4 p => (hok _ q).2.1 rfl σ4 H4 io4 p.1 (T5.trans p.2))
            (fun q σ4 H4 io4 p => (hok _ q).2.2.1 rfl σ4 H4 io4 p.1 (T5.trans p.2)) (fun u q v H4 io4 p => (hok _ q).2.2.2 u rfl v H4 io4 (p.trans T5)) fun xx q cls d σ4 H4 io4 p => hxx xx q cls d σ4 H4 io4 p.1 (T5.trans p.2.1) p.2.2
      rcases bnd_some e3 with ⟨z, e4, rfl⟩ | ⟨f, s4, e4, e5⟩
      · exact body e4 _ (fun _ q => by cases q) fun xx q cls d σ4 H4 io4 a1 a2 a3 => by
          cases q
          exact hex _ rfl cls d σ4 H4 io4 ⟨a1, T23.trans a2, a3⟩
      · refine body e4 _ (fun f' q => ?_) fun _ q => by cases q
        cases q
        have again : forL kw (kw.ws.drop (i + 1)) (fun w => bnd (t w) fun _ => mb) s4 = some (r0, s') → ∀ σ4 H4 io4, Sim K mg ea io4 Fr s4 σ4 H4 → Stp io3 (Ms io3 Fr s2 σ2) Fr H3 io4 (Ms io4 Fr s4 σ4) H4 →
            ∃ io3 s3, Sim K mg ea io3 Fr s3 σ4 H4 ∧ Stp io (Ms io Fr s σ) Fr H io3 (Ms io3 Fr s3 σ4) H4 ∧ Pers io1 (Ms io1 Fr s1 σ) H1 io3 (Ms io3 Fr s3 σ4) H4 ∧ (∀ x o, H1 x = some o → ∃ o', H4 x = some o') ∧ forL kw (kw.ws.drop (i + 1)) (fun w => bnd (t w) fun _ => mb) s3 = some (r0, s') :=
          fun e6 σ4 H4 io4 a1 a2 => ⟨io4, s4, a1, T23.trans a2, P3.trans a2.p tk3, fun x o h => let ⟨o', h'⟩ := tk3 x o h; a2.trk x o' h', e6⟩
        refine ⟨fun q => ?_, fun q => ?_, fun q => ?_, fun u q => ?_⟩
        · subst q; exact again e5
        · subst q
          intro σ4 H4 io4 a1 a2
          cases e5
          exact hnx rfl σ4 H4 io4 ⟨a1, T23.trans a2⟩
        · subst q; exact again e5
        · subst q
          intro v H4 io4 p
          cases e5
          exact hrt _ rfl v H4 io4 (p.trans T23)
    · have hi' : i = kw.ws.length := by omega
      subst hi'
      rw [List.drop_length] at e3
      unfold forL at e3
      rw [if_pos ck] at e3
      cases e3
      exact .inl ⟨G.stop _ _ _ P2 cn, hnx rfl σ2 H2 io2 ⟨S2, T2⟩⟩
end
end Z

set_option Elab.async false
set_option linter.all false
set_option maxRecDepth 100000
/-! Z8: what is walked; comprehensions; canonical readings; the statements' rules. -/
namespace Z
open PySem PySem.Spec PyProof.Rows L2
section
variable {K : PySem.W.Frag} {mg : Str → Option Value} {ea : EA} {io io' : List Addr} {Fr Fr' : Addr → Prop} {s s' s2 : S} {σ σ' : L2.St} {H H' : Hp} {w : W} {v : V} {c : Cell} {o : HO} {a p : Addr} {ws : List W} {vs : List V} {M : Addr → Prop}
variable {Wx : WX}
theorem itg_list (h : H a = some (.lst vs)) (hn : ¬ M a) (r : Rws K mg io M H ws vs) : ItG K mg (Itl K a) ⟨ws, none⟩ io M H where
  go := fun io' M' H' P _ i hi => ⟨vs, vs[i]'(by rw [← r.1]; exact hi), SqL.of (P.keep _ _ h hn), by simp [← r.1, hi]⟩
  stop := fun io' M' H' P _ => ⟨vs, SqL.of (P.keep _ _ h hn), by rw [r.1]; exact Nat.le_refl _⟩
  yld := fun io' M' H' P _ _ i x H2 y w hw => .inl ⟨y.1, (r.2 i w x hw (y.2 vs (SqL.of (P.keep _ _ h hn)))).pers P⟩
theorem itg_frl (h : (Rd H a (.lst vs) ∧ ¬ M a) ∨ KL K a vs) (r : Rws K mg io M H ws vs) : ItG K mg (Itl K a) ⟨ws, none⟩ io M H := by
  have q : ∀ io' M' H', Pers io M H io' M' H' → SqL K H' a vs := fun io' M' H' P => h.imp (fun z => P.rd z.1 z.2) id
  exact {
           go := fun io' M' H' P _ i hi => ⟨vs, vs[i]'(by rw [← r.1]; exact hi), q _ _ _ P, by simp [← r.1, hi]⟩
           stop := fun io' M' H' P _ => ⟨vs, q _ _ _ P, by rw [r.1]; exact Nat.le_refl _⟩
           yld := fun io' M' H' P _ _ i x H2 y w hw => .inl ⟨y.1, (r.2 i w x hw (y.2 vs (q _ _ _ P))).pers P⟩ }
theorem itg_tup (h : (H a = some (.tup vs) ∧ ¬ M a) ∨ (KT K a vs ∧ vs = [])) (r : Rws K mg io M H ws vs) : ItG K mg (Itt K a) ⟨ws, none⟩ io M H := by
  have q : ∀ io' M' H', Pers io M H io' M' H' → SqT K H' a vs := fun io' M' H' P => h.elim (fun z => SqT.of (P.keep _ _ z.1 z.2)) fun z => .inr z.1
  exact {
           go := fun io' M' H' P _ i hi => ⟨vs, vs[i]'(by rw [← r.1]; exact hi), q _ _ _ P, by simp [← r.1, hi]⟩
           stop := fun io' M' H' P _ => ⟨vs, q _ _ _ P, by rw [r.1]; exact Nat.le_refl _⟩
           yld := fun io' M' H' P _ _ i x H2 y w hw => .inl ⟨y.1, (r.2 i w x hw (y.2 vs (q _ _ _ P))).pers P⟩ }
theorem itg_cell {n : Nat} (h0 : io[n]? = some a) : ItG K mg (Itl K a) ⟨ws, some n⟩ io M H := by
  have q : ∀ io' M' H', Pers io M H io' M' H' → Cn K mg ⟨ws, some n⟩ io' M' H' → ∃ vs, H' a = some (.lst vs) ∧ Rws K mg io' M' H' ws vs := fun io' M' H' P c => by
    obtain ⟨a', vs, h1, h2, h3⟩ := c
    rw [P.ext _ _ h0] at h1
    cases h1
    exact ⟨vs, h2, h3⟩
  exact {
           go := fun io' M' H' P c i hi => by
             obtain ⟨vs, h2, h3⟩ := q _ _ _ P c
             exact ⟨vs, vs[i]'(by rw [← h3.1]; exact hi), SqL.of h2, by simp [← h3.1, hi]⟩
           stop := fun io' M' H' P c => by
             obtain ⟨vs, h2, h3⟩ := q _ _ _ P c
             exact ⟨vs, SqL.of h2, by rw [h3.1]; exact Nat.le_refl _⟩
           yld := fun io' M' H' P c _ i x H2 y w hw => by
             obtain ⟨vs, h2, h3⟩ := q _ _ _ P c
             exact .inl ⟨y.1, h3.2 i w x hw (y.2 vs (SqL.of h2))⟩ }
def rngW (lo : Int) (n : Nat) : List W := (List.range n).map fun (k : Nat) => W.int (lo + (k : Int))
theorem itg_rng {lo : Int} {n : Nat} : ItG K mg (Itr lo n) ⟨rngW lo n, none⟩ io M H where
  go := fun io' M' H' P _ i hi => by
    show i < n
    simpa [rngW] using hi
  stop := fun io' M' H' P _ => by
    show n ≤ (rngW lo n).length
    simp [rngW]
  yld := fun io' M' H' P _ _ i x H2 y w hw => by
    obtain ⟨y1, rfl⟩ := y
    refine .inl ⟨y1, ?_⟩
    have hi := get_lt hw
    simp only [rngW, List.length_map, List.length_range] at hi
    simp only [rngW, List.getElem?_map, List.getElem?_range hi, Option.map_some, Option.some.injEq] at hw
    subst hw
    exact .int _
def walkOf (s : S) : W → Option Wk
  | .ref n => match s.G[n]? with
    | some (.lst ws) => some ⟨ws, some n⟩
    | _ => none
  | w => (seqOf w).map fun ws => ⟨ws, none⟩
def mIter (m : Mo RV) : Mo Wk := bnd m fun x => bnd (freeze (settle x)) fun w s => (walkOf s w).map fun k => (.ok k, s)
theorem ref_iter {tl : TE} {m : Mo RV} (h : RefE K mg ea Wx tl m) : RefI K mg ea Wx (fun σ H R => iList K tl σ H R ∨ iTup K tl σ H R) (mIter m) := by
  intro σ H io Fr s S0 r0 s' e R hok hex
  rcases bnd_some e with ⟨x, e1, rfl⟩ | ⟨x, s1, e1, e2⟩
  · exact .inl (h σ H io Fr s S0 _ _ e1 _ (fun _ q => by cases q) fun x' q cls d H' io' px => by
      cases q
      exact hex _ rfl cls d H' io' px)
  · have key : ∀ {Q : VK}, (∀ w v H1 io1, (walkOf s' w).map (fun k => (Except.ok k, s')) = some (r0, s') → Sim K mg ea io1 Fr s' σ H1 → Stp io (Ms io Fr s σ) Fr H io1 (Ms io1 Fr s' σ) H1 → Rw K mg io1 (Ms io1 Fr s' σ) H1 w v → (∃ s4, freeze (settle x) s1 = some (.ok w, s4)) → Q v H1) → tl σ H Q := by
      intro Q hQ
      refine h σ H io Fr s S0 _ _ e1 _ (fun x' q v H1 io1 px => ?_) (fun _ q => by cases q)
      cases q
      obtain ⟨S1, T1, R1⟩ := px.settled
      rcases bnd_some e2 with ⟨z, e3, _⟩ | ⟨w, s3, e3, e4⟩
      · obtain ⟨_, _, _, _, q, _⟩ := freeze_ok S1 R1 e3
        cases q
      · obtain ⟨_, l3, S3, w', q, R3⟩ := freeze_ok S1 R1 e3
        cases q
        obtain ⟨k, h1, h2⟩ := Option.map_eq_some_iff.mp e4
        cases h2
        exact hQ w v H1 io1 (by rw [h1]; rfl) S3 (T1.less l3) R3 ⟨_, e3⟩
    rcases bnd_some e2 with ⟨z, e3, rfl⟩ | ⟨w0, s3, e3, e4⟩
    · refine .inl (key fun w v H1 io1 k S1 T1 R1 ⟨s4, q⟩ => ?_)
      rw [e3] at q; cases q
    · cases w0 with
      | tup ws =>
        refine .inr (key fun w v H1 io1 k S1 T1 R1 ⟨s4, q⟩ => ?_)
        rw [e3] at q
        cases q
        cases k
        cases R1 with
        | tup h1 h2 h3 => exact ⟨_, rfl, ⟨_, h1.elim (fun z => SqT.of z.1) fun z => .inr z.1⟩, hok _ rfl _ _ _ ⟨S1, T1⟩ (itg_tup h1 ⟨h2, h3⟩)⟩
      | lst ws =>
        refine .inl (key fun w v H1 io1 k S1 T1 R1 ⟨s4, q⟩ => ?_)
        rw [e3] at q
        cases q
        cases k
        cases R1 with
        | lst h1 h2 h3 h4 => exact ⟨_, rfl, ⟨_, SqL.of h1⟩, hok _ rfl _ _ _ ⟨S1, T1⟩ (itg_list h1 h2 ⟨h3, h4⟩)⟩
      | frl ws =>
        refine .inl (key fun w v H1 io1 k S1 T1 R1 ⟨s4, q⟩ => ?_)
        rw [e3] at q
        cases q
        cases k
        cases R1 with
        | frl h1 h3 h4 => exact ⟨_, rfl, ⟨_, h1.imp (fun z => z.1) id⟩, hok _ rfl _ _ _ ⟨S1, T1⟩ (itg_frl h1 ⟨h3, h4⟩)⟩
      | ref n =>
        refine .inl (key fun w v H1 io1 k S1 T1 R1 ⟨s4, q⟩ => ?_)
        rw [e3] at q
        cases q
        obtain ⟨kk, h1, h2⟩ := Option.map_eq_some_iff.mp k
        cases h2
        unfold walkOf at h1
        simp only at h1
        split at h1
        · rename_i ws hG
          cases h1
          cases R1 with
          | ref hn =>
            obtain ⟨o, ho, vs, rfl, r⟩ := S1.g.cell n _ _ hn hG
            exact ⟨_, rfl, ⟨_, SqL.of ho⟩, hok _ rfl _ _ _ ⟨S1, T1⟩ (itg_cell hn)⟩
        · cases h1
      | _ => cases e4
/-- a number that a range takes; decided by no reckoning (the Lean kernel would count in ones) -/
def Rk (j : Int) : Prop := -(2 ^ 62) ≤ j ∧ j < 2 ^ 62
noncomputable instance (j : Int) : Decidable (Rk j) := Classical.propDecidable _
/-- a number that a length may be -/
def Lk (j : Int) : Prop := 0 ≤ j ∧ j < 2 ^ 63
noncomputable instance (j : Int) : Decidable (Lk j) := Classical.propDecidable _
noncomputable def mRng1 (ms : Mo (List RV)) : Mo Wk := bnd ms fun xs => bnd (lookAll xs) fun ws => match ws with
  | [.int j] => if Rk j then ret ⟨rngW 0 j.toNat, none⟩ else stk
  | _ => stk
noncomputable def mRng2 (ms : Mo (List RV)) : Mo Wk := bnd ms fun xs => bnd (lookAll xs) fun ws => match ws with
  | [.int i, .int j] => if Rk i ∧ Rk j then ret ⟨rngW i (j - i).toNat, none⟩ else stk
  | _ => stk
theorem ref_rng1 {ta : TA} {ms : Mo (List RV)} (h : RefA K mg ea Wx ta ms) : RefI K mg ea Wx (iRng1 ta) (mRng1 ms) := by
  intro σ H io Fr s S0 r0 s' e R hok hex
  refine arg2 h S0 e hex fun xs vs s1 H1 io1 e2 px R1 => ?_
  rcases bnd_some e2 with ⟨x, e3, rfl⟩ | ⟨ws, s2, e3, e4⟩
  · obtain ⟨_, _, q, _⟩ := lookAll_ok px.1 R1 e3
    cases q
  · obtain ⟨rfl, ws', q, r2⟩ := lookAll_ok px.1 R1 e3
    cases q
    split at e4
    · split at e4
      · rename_i hz
        cases e4
        obtain ⟨v, rfl, rv⟩ := p1 r2
        have := rv.int
        subst this
        exact ⟨_, rfl, hz.1, hz.2, hok _ rfl _ _ _ px itg_rng⟩
      · cases e4
    · cases e4
theorem ref_rng2 {ta : TA} {ms : Mo (List RV)} (h : RefA K mg ea Wx ta ms) : RefI K mg ea Wx (iRng2 ta) (mRng2 ms) := by
  intro σ H io Fr s S0 r0 s' e R hok hex
  refine arg2 h S0 e hex fun xs vs s1 H1 io1 e2 px R1 => ?_
  rcases bnd_some e2 with ⟨x, e3, rfl⟩ | ⟨ws, s2, e3, e4⟩
  · obtain ⟨_, _, q, _⟩ := lookAll_ok px.1 R1 e3
    cases q
  · obtain ⟨rfl, ws', q, r2⟩ := lookAll_ok px.1 R1 e3
    cases q
    split at e4
    · split at e4
      · rename_i hz
        cases e4
        obtain ⟨v, v', rfl, rv, rv'⟩ := p2 r2
        have := rv.int
        subst this
        have := rv'.int
        subst this
        exact ⟨_, _, rfl, ⟨hz.1.1, hz.1.2, hz.2.1, hz.2.2⟩, hok _ rfl _ _ _ px itg_rng⟩
      · cases e4
    · cases e4

/-! ### canonical readings -/
variable (K mg ea Wx)
def tOf (m : Mo RV) : TE := fun σ H Q => ∃ io Fr s r s', Sim K mg ea io Fr s σ H ∧ m s = some (r, s') ∧ (∀ x, r = .ok x → ∀ v H' io', PostE K mg ea io Fr s σ H s' io' H' x v → Q v H') ∧
  (∀ x, r = .error x → ∀ cls d H' io', PostX K mg ea io Fr s σ H s' σ io' H' x cls d → Wx cls d σ H')
def ttOf (m : Mo Bool) : TT := fun σ H Q => ∃ io Fr s r s', Sim K mg ea io Fr s σ H ∧ m s = some (r, s') ∧ (∀ b, r = .ok b → ∀ H' io', PostS K mg ea io Fr s σ H s' σ io' H' → Q b H') ∧
  (∀ x, r = .error x → ∀ cls d H' io', PostX K mg ea io Fr s σ H s' σ io' H' x cls d → Wx cls d σ H')
def gOf (t : W → Mo Unit) (l : List Nat) : TG := fun v σ H Q => ∃ io Fr s w r s', Sim K mg ea io Fr s σ H ∧ Rw K mg io (Ms io Fr s σ) H w v ∧ t w s = some (r, s') ∧
  (∀ σ', Sim K mg ea io Fr s' σ' H → (∀ b, Ms io Fr s' σ' b → Ms io Fr s σ b) → σ'.length = σ.length → (∀ j, j ∉ l → σ'[j]? = σ[j]?) → Q σ' H)
variable {K mg ea Wx}
theorem ref_tOf (m : Mo RV) : RefE K mg ea Wx (tOf K mg ea Wx m) m := fun σ H io Fr s S0 r s' e Q h1 h2 => ⟨io, Fr, s, r, s', S0, e, h1, h2⟩
theorem ref_ttOf (m : Mo Bool) : RefT K mg ea Wx (ttOf K mg ea Wx m) m := fun σ H io Fr s S0 r s' e Q h1 h2 => ⟨io, Fr, s, r, s', S0, e, h1, h2⟩
theorem ref_gOf {t : W → Mo Unit} {l : List Nat} (ne : ∀ w s r s', t w s = some (r, s') → r = .ok ()) : RefG K mg ea (gOf K mg ea t l) t l := ⟨ne, fun σ H io Fr s w v S0 R r s' e Q h => ⟨io, Fr, s, w, r, s', S0, R, e, h⟩⟩

/-! ### comprehensions -/
theorem Sim.updFr {o' : HO} (x : Sim K mg ea io Fr s σ H) (hp : Fr p) (ho : H p = some o) (hN : Nt o' := by intro _ z; cases z) : Sim K mg ea io Fr s σ (upd H p o') := by
  have ne : ∀ b, ¬ Ms io Fr s σ b → b ≠ p := fun b h z => by
    subst z
    exact h (.inr (.inl hp))
  have q : Pers io (Ms io Fr s σ) H io (Ms io Fr s σ) (upd H p o') := ⟨fun b u e h => by rw [upd_ne (ne b h)]; exact e, fun b z => .inl z, fun _ _ e => e⟩
  have nio : ∀ b ∈ io, b ≠ p := fun b hb z => by
    subst z
    exact x.g.dj b hb (.inl hp)
  refine ⟨x.len, ⟨x.g.len, fun n b c h1 h2 => ?_, x.g.nd, x.g.dj, fun b z => ?_⟩, fun i w e => ?_, fun i c e => ?_, x.dist, fun i e k => let ⟨h1, h2⟩ := x.exc i e k; ⟨h1, h2.pers q⟩⟩
  · obtain ⟨u, e, r⟩ := x.g.cell n b c h1 h2
    exact ⟨u, by rw [upd_ne (nio b (List.mem_of_getElem? h1))]; exact e, r.pers q⟩
  · by_cases h : b = p
    · exact ⟨o', by rw [h, upd_same], hN⟩
    · obtain ⟨u, e, n⟩ := x.g.fr b z
      exact ⟨u, by rw [upd_ne h]; exact e, n⟩
  · obtain ⟨v, h1, h2⟩ := x.val i w e
    exact ⟨v, h1, h2.pers q⟩
  · obtain ⟨b, u, h1, h2, h3, h4⟩ := x.own i c e
    exact ⟨b, u, h1, by rw [upd_ne (fun z => by subst z; exact h4 hp)]; exact h2, h3.pers q, h4⟩
theorem Stp.updNew {M M' : Addr → Prop} {o' : HO} (T : Stp io M Fr H io' M' H') (hp : H p = none) (hf : ¬ Fr p) (h' : H' p = some o) : Stp io M Fr H io' M' (upd H' p o') where
  p := ⟨fun b u e h => by rw [upd_ne (ne_of_none e hp)]; exact T.p.keep b u e h, T.p.new, T.p.ext⟩
  fr := fun b z => by rw [upd_ne (fun e => by subst e; exact hf z)]; exact T.fr b z
  trk := fun b u e => by rw [upd_ne (ne_of_none e hp)]; exact T.trk b u e
def wipeR (r : List SV) : List Nat → List SV
  | [] => r
  | v :: vs => (wipeR r vs).set v .non
def wipeS (vs : List Nat) (s : S) : S := { s with r := wipeR s.r vs }
theorem wipeR_len (r : List SV) : ∀ l : List Nat, (wipeR r l).length = r.length
  | [] => rfl
  | v :: vs => by unfold wipeR; rw [List.length_set, wipeR_len r vs]
theorem wipeR_get {r : List SV} {i : Nat} : ∀ {l : List Nat}, (i ∉ l → (wipeR r l)[i]? = r[i]?) ∧ (i ∈ l → (wipeR r l)[i]? = some .non ∨ (wipeR r l)[i]? = none)
  | [] => ⟨fun _ => rfl, fun h => by simp at h⟩
  | v :: vs => by
    obtain ⟨i1, i2⟩ := wipeR_get (r := r) (i := i) (l := vs)
    refine ⟨fun h => ?_, fun h => ?_⟩
    · simp only [List.mem_cons, not_or] at h
      unfold wipeR
      rw [List.getElem?_set_ne (fun z => h.1 z.symm)]
      exact i1 h.2
    · unfold wipeR
      by_cases e : v = i
      · subst e
        rcases Nat.lt_or_ge v (wipeR r vs).length with q | q
        · exact .inl (List.getElem?_set_self q)
        · exact .inr (List.getElem?_eq_none (by simpa using q))
      · rw [List.getElem?_set_ne e]
        rcases List.mem_cons.mp h with z | z
        · exact absurd z.symm e
        · exact i2 z
theorem wipe_get {σ : L2.St} {i : Nat} : ∀ {l : List Nat}, (i ∉ l → (wipe σ l)[i]? = σ[i]?) ∧ (i ∈ l → i < σ.length → (wipe σ l)[i]? = some none)
  | [] => ⟨fun _ => rfl, fun h => by simp at h⟩
  | v :: vs => by
    obtain ⟨i1, i2⟩ := wipe_get (σ := σ) (i := i) (l := vs)
    refine ⟨fun h => ?_, fun h hl => ?_⟩
    · simp only [List.mem_cons, not_or] at h
      unfold wipe
      rw [List.getElem?_set_ne (fun z => h.1 z.symm)]
      exact i1 h.2
    · unfold wipe
      by_cases e : v = i
      · subst e
        exact List.getElem?_set_self (by rw [wipe_length]; exact hl)
      · rw [List.getElem?_set_ne e]
        rcases List.mem_cons.mp h with z | z
        · exact absurd z.symm e
        · exact i2 z hl
theorem wipe_eq {σ σ' : L2.St} {l : List Nat} (hl : σ'.length = σ.length) (h : ∀ j, j ∉ l → σ'[j]? = σ[j]?) : wipe σ' l = wipe σ l := by
  apply List.ext_getElem?
  intro j
  by_cases hj : j ∈ l
  · rcases Nat.lt_or_ge j σ.length with q | q
    · rw [(wipe_get (σ := σ')).2 hj (by rw [hl]; exact q), (wipe_get (σ := σ)).2 hj q]
    · rw [List.getElem?_eq_none (by rw [wipe_length, hl]; exact q), List.getElem?_eq_none (by rw [wipe_length]; exact q)]
  · rw [(wipe_get (σ := σ')).1 hj, (wipe_get (σ := σ)).1 hj, h j hj]
theorem wipe_wipe {σ : L2.St} {l : List Nat} : wipe (wipe σ l) l = wipe σ l := wipe_eq (wipe_length σ l) fun j hj => (wipe_get (σ := σ)).1 hj
/-- the slots of a block forgotten: the state by any slots that agree elsewhere -/
theorem Sim.wiped {l : List Nat} (x : Sim K mg ea io Fr s σ H) (hl : σ'.length = σ.length) (h : ∀ j, j ∉ l → σ'[j]? = σ[j]?) : Sim K mg ea io Fr (wipeS l s) σ' H ∧ (∀ b, Ms io Fr (wipeS l s) σ' b → Ms io Fr s σ b) := by
  refine x.sub (by rw [wipeR_len, x.len, hl]) fun i => ?_
  by_cases hi : i ∈ l
  · exact .inr ((wipeR_get (r := s.r)).2 hi)
  · exact .inl ⟨(wipeR_get (r := s.r)).1 hi, h i hi⟩
noncomputable def lcL (vs : List Nat) (t : W → Mo Unit) (tt : Mo Bool) (me : Mo RV) (k : Wk) : List W → List W → Mo RV
  | [], acc => fun s => if k.ok s then some (.ok (.own (.lst acc)), s) else none
  | w :: ws, acc => fun s => if k.ok s then (match (bnd (t w) fun _ => tt) s with
    | some (.ok true, s1) => match (bnd me fun x => freeze (settle x)) s1 with
      | some (.ok y, s2) => if acc.length < sz then lcL vs t tt me k ws (acc ++ [y]) (wipeS vs s2) else none
      | _ => none
    | some (.ok false, s1) => lcL vs t tt me k ws acc (wipeS vs s1)
    | _ => none) else none
noncomputable def mLc (vs : List Nat) (mi : Mo Wk) (t : W → Mo Unit) (tt : Mo Bool) (me : Mo RV) : Mo RV := bnd mi fun k => fun s => lcL vs t tt me k k.ws [] (wipeS vs s)
def W0 : WX := fun _ _ _ _ => False
theorem ref_lc {wi : TI} {g : TG} {tt : TT} {te : TE} {mi : Mo Wk} {t : W → Mo Unit} {mt : Mo Bool} {me : Mo RV} {l vs : List Nat} (hi : RefI K mg ea Wx wi mi) (hg : RefG K mg ea g t l) (hl : ∀ i ∈ l, i ∈ vs) (ht : RefT K mg ea W0 tt mt) (he : RefE K mg ea W0 te me) :
    RefE K mg ea Wx (tLc wi g tt te vs) (mLc vs mi t mt me) := by
  intro σ H io Fr s S0 r0 s' e Q hok hex
  rcases bnd_some e with ⟨x, e1, rfl⟩ | ⟨kw, s1, e1, e2⟩
  · exact hi σ H io Fr s S0 _ _ e1 _ (fun _ q => by cases q) fun x' q cls d H' io' px => by
      cases q
      exact hex _ rfl cls d H' io' px
  · refine hi σ H io Fr s S0 _ _ e1 _ (fun kw' q J H1 io1 px G => ?_) (fun _ q => by cases q)
    cases q
    intro D hD
    obtain ⟨SD, TD, nD⟩ := px.1.alloc (o := .lst []) hD
    have nFD : ¬ Fr D := fun z => nD (.inl z)
    obtain ⟨SW, lW⟩ := SD.wiped (l := vs) (σ' := wipe σ vs) (wipe_length σ vs) fun j hj => (wipe_get (σ := σ)).1 hj
    have TW := TD.less lW
    refine ⟨fun i m H2 => m = kw.ws.length - i ∧ i ≤ kw.ws.length ∧ ∃ io2 s2 acc av, Sim K mg ea io2 (pls Fr D) s2 (wipe σ vs) H2 ∧ Stp io1 (Ms io1 Fr s1 σ) Fr H1 io2 (Ms io2 (pls Fr D) s2 (wipe σ vs)) H2 ∧
      H2 D = some (.lst av) ∧ Rws K mg io2 (Ms io2 (pls Fr D) s2 (wipe σ vs)) H2 acc av ∧ (∀ j, j ∈ vs → s2.r[j]? = some .non ∨ s2.r[j]? = none) ∧ lcL vs t mt me kw (kw.ws.drop i) acc s2 = some (r0, s'),
      ⟨kw.ws.length, by simp, Nat.zero_le _, io1, wipeS vs s1, [], [], SW, TW, upd_same, Rws.nil, fun j hj => (wipeR_get (r := s1.r)).2 hj, by simpa using e2⟩, ?_⟩
    rintro i m H2 ⟨rfl, hle, io2, s2, acc, av, S2, T2, hA, RA, wn, e3⟩
    have ck : kw.ok s2 := by
      cases hd : kw.ws.drop i with
      | nil =>
        rw [hd] at e3; unfold lcL at e3; split at e3
        · assumption
        · cases e3
      | cons w ws =>
        rw [hd] at e3; unfold lcL at e3; split at e3
        · assumption
        · cases e3
    have cn := cn_of S2 ck
    by_cases hlt : i < kw.ws.length
    · refine .inr ⟨G.go _ _ _ T2.p cn i hlt, fun H3 => ∃ io3 s3 acc av, Sim K mg ea io3 (pls Fr D) s3 (wipe σ vs) H3 ∧ Stp io1 (Ms io1 Fr s1 σ) Fr H1 io3 (Ms io3 (pls Fr D) s3 (wipe σ vs)) H3 ∧
        H3 D = some (.lst av) ∧ Rws K mg io3 (Ms io3 (pls Fr D) s3 (wipe σ vs)) H3 acc av ∧ (∀ j, j ∈ vs → s3.r[j]? = some .non ∨ s3.r[j]? = none) ∧ lcL vs t mt me kw (kw.ws.drop (i + 1)) acc s3 = some (r0, s'),
        fun H3 ⟨io3, s3, acc, av, a1, a2, a3, a4, a6, a5⟩ => ⟨kw.ws.length - (i + 1), by omega, rfl, hlt, io3, s3, acc, av, a1, a2, a3, a4, a6, a5⟩, fun x H3 y => ?_⟩
      rw [drop_get hlt] at e3
      -- the item
      have item : ∃ io3, Sim K mg ea io3 (pls Fr D) s2 (wipe σ vs) H3 ∧ Stp io2 (Ms io2 (pls Fr D) s2 (wipe σ vs)) (pls Fr D) H2 io3 (Ms io3 (pls Fr D) s2 (wipe σ vs)) H3 ∧ Rw K mg io3 (Ms io3 (pls Fr D) s2 (wipe σ vs)) H3 kw.ws[i] x := by
        rcases G.yld _ _ _ T2.p cn (fun a z => S2.trkN z) i x H3 y kw.ws[i] (by simp [hlt]) with ⟨rfl, r⟩ | ⟨p, us, ws', hp, rfl, hw, rfl, r⟩
        · exact ⟨io2, S2, .refl, r⟩
        · obtain ⟨S3, T3⟩ := S2.laid (o := .tup us) hp
          have r' := r.pers T3.p
          refine ⟨io2, S3, T3, ?_⟩
          rw [hw]
          refine .tup (.inl ⟨upd_same, fun z => ?_⟩) r'.1 r'.2
          obtain ⟨u, e⟩ := S2.trk z
          rw [hp] at e; cases e
      obtain ⟨io3, S3, T3, R3⟩ := item
      have T23 := T2.trans (T3.frless pls.sub)
      have hA3 : H3 D = some (.lst av) := (T3.fr D (.inr rfl)).trans hA
      have RA3 := RA.pers T3.p
      unfold lcL at e3
      rw [if_pos ck] at e3
      cases ex : (bnd (t kw.ws[i]) fun _ => mt) s2 with
      | none => rw [ex] at e3; cases e3
      | some pr =>
        obtain ⟨rb, s4⟩ := pr
        rw [ex] at e3
        rcases bnd_some ex with ⟨z, e5, rfl⟩ | ⟨_, s5, e5, e6⟩
        · have := hg.ne _ _ _ _ e5
          cases this
        · refine hg.go (wipe σ vs) H3 io3 (pls Fr D) s2 _ x S3 R3 _ _ e5 _ fun σ5 S5 l5 n5 k5 => ?_
          have k5' : ∀ j, j ∉ vs → σ5[j]? = (wipe σ vs)[j]? := fun j hj => k5 j fun z => hj (hl j z)
          have we : wipe σ5 vs = wipe σ vs := by rw [wipe_eq n5 k5', wipe_wipe]
          refine ⟨we, ?_⟩
          have T5 : Stp io3 (Ms io3 (pls Fr D) s2 (wipe σ vs)) (pls Fr D) H3 io3 (Ms io3 (pls Fr D) s5 σ5) H3 := Stp.refl.less l5
          have back : ∀ {s6 : S} {H6 : Hp} {io6 : List Addr}, Sim K mg ea io6 (pls Fr D) s6 σ5 H6 → Sim K mg ea io6 (pls Fr D) (wipeS vs s6) (wipe σ vs) H6 ∧ (∀ b, Ms io6 (pls Fr D) (wipeS vs s6) (wipe σ vs) b → Ms io6 (pls Fr D) s6 σ5 b) := fun S6 =>
            S6.wiped (by rw [n5]) fun j hj => (k5' j hj).symm
          cases rb with
          | error z => cases e3
          | ok b =>
            refine ht σ5 H3 io3 (pls Fr D) s5 S5 _ _ e6 _ (fun b' q H6 io6 p6 => ?_) fun z q => by cases q
            cases q
            have T36 := T23.trans ((T5.trans p6.2).frless pls.sub)
            have hA6 : H6 D = some (.lst av) := (p6.2.fr D (.inr rfl)).trans hA3
            have RA6 := (RA3.pers T5.p).pers p6.2.p
            cases b with
            | false =>
              rw [if_neg Bool.false_ne_true]
              obtain ⟨S7, l7⟩ := back p6.1
              exact ⟨io6, _, acc, av, S7, T36.less l7, hA6, RA6.pers (.less l7), fun j hj => (wipeR_get (r := s4.r)).2 hj, e3⟩
            | true =>
              rw [if_pos rfl]
              simp only at e3
              cases ey : (bnd me fun x => freeze (settle x)) s4 with
              | none => rw [ey] at e3; cases e3
              | some pr2 =>
                obtain ⟨ry, s7⟩ := pr2
                rw [ey] at e3
                cases ry with
                | error z => cases e3
                | ok yv =>
                  simp only at e3
                  split at e3
                  · rename_i hz
                    refine one2 he p6.1 ey (fun x q => by cases q) fun xr v s8 H8 io8 e8 p8 => ?_
                    obtain ⟨S8, T8, R8⟩ := p8.settled
                    obtain ⟨_, l9, S9, w', q, R9⟩ := freeze_ok S8 R8 e8
                    cases q
                    have hA8 : H8 D = some (.lst av) := (T8.fr D (.inr rfl)).trans hA6
                    have RA8 := (RA6.pers T8.p).pers (.less l9)
                    refine ⟨av, hA8, by rw [sz_eq, ← RA8.1]; exact hz, ?_⟩
                    have S10 := S9.updFr (o' := .lst (av ++ [v])) (.inr rfl) hA8
                    obtain ⟨S11, l11⟩ := back S10
                    have T11 : Stp io1 (Ms io1 Fr s1 σ) Fr H1 io8 (Ms io8 (pls Fr D) (wipeS vs s7) (wipe σ vs)) (upd H8 D (.lst (av ++ [v]))) :=
                      ((T36.trans ((T8.less l9).frless pls.sub)).updNew hD nFD hA8).less l11
                    have PD : Pers io8 (Ms io8 (pls Fr D) s7 σ5) H8 io8 (Ms io8 (pls Fr D) (wipeS vs s7) (wipe σ vs)) (upd H8 D (.lst (av ++ [v]))) :=
                      ⟨fun b u e h => by rw [upd_ne (fun z => by subst z; exact h (.inr (.inl (.inr rfl))))]; exact e, fun b z => .inl (l11 b z), fun _ _ e => e⟩
                    exact ⟨io8, _, acc ++ [yv], av ++ [v], S11, T11, upd_same, (RA8.append (Rws.one R9)).pers PD, fun j hj => (wipeR_get (r := s7.r)).2 hj, e3⟩
                  · cases e3
    · have hi' : i = kw.ws.length := by omega
      subst hi'
      rw [List.drop_length] at e3
      unfold lcL at e3
      rw [if_pos ck] at e3
      cases e3
      refine .inl ⟨G.stop _ _ _ T2.p cn, hok _ rfl (.ref D) H2 io2 ?_⟩
      obtain ⟨S3, l3⟩ := S2.sub (r' := s'.r) (σ' := σ) (by rw [S2.len, wipe_length]) fun j => by
        by_cases hj : j ∈ vs
        · exact .inr (wn j hj)
        · exact .inl ⟨rfl, ((wipe_get (σ := σ)).1 hj).symm⟩
      refine ⟨D, .lst av, rfl, hA, fun z => ?_, S3, (px.2.trans T2).less l3, av, rfl, RA.pers (.less l3)⟩
      rcases z with z | ⟨j, c, h1, h2⟩
      · exact nFD z
      · obtain ⟨b, o, q1, _, _, q4⟩ := S3.own j c h1
        rw [h2] at q1
        cases q1
        exact q4 (.inr rfl)
end
end Z

set_option Elab.async false
set_option linter.all false
set_option maxRecDepth 100000
/-! Z9: rules of statements; defs and their calls. -/
namespace Z
open PySem PySem.Spec PyProof.Rows L2
section
variable {X : Cx} {ea : EA} {Wx : WX} {a b c e : Expr} {ma mb mc m : Mo RV} {pos pos' : Pos} {st : Stmt} {rest sts : List Stmt} {f g : Mo Fl} {mt : Mo Bool}
theorem PE.imp {t t' : TE} (h : PE X e t) (k : ∀ σ H Q, t' σ H Q → t σ H Q) : PE X e t' := ⟨fun pins s σ H Q I q => h.run pins s σ H Q I (k _ _ _ q)⟩
theorem Pee.can (h : Pee X ea Wx e m) : PE X e (tOf X.K X.mg ea Wx m) := by
  obtain ⟨t, p, r⟩ := h.ex
  exact PE.imp p fun σ H Q ⟨io, Fr, s, r0, s', S0, e, h1, h2⟩ => r σ H io Fr s S0 r0 s' e Q h1 h2
theorem Pet.can (h : Pet X ea Wx e mt) : PT X e (ttOf X.K X.mg ea Wx mt) := by
  obtain ⟨t, p, r⟩ := h.ex
  exact ⟨fun pins s σ H Q I ⟨io, Fr, s1, r0, s', S0, e, h1, h2⟩ => p.run pins s σ H Q I (r σ H io Fr s1 S0 r0 s' e Q h1 h2)⟩
structure Peg (X : Cx) (ea : EA) (tg : Expr) (t : W → Mo Unit) (l : List Nat) : Prop where
  ex : ∃ g, PG X tg g ∧ RefG X.K X.mg ea g t l
structure Pegs (X : Cx) (ea : EA) (tgs : List Expr) (t : List W → Mo Unit) (l : List Nat) : Prop where
  ex : ∃ g, PGs X tgs g ∧ RefGs X.K X.mg ea g t l
structure Pei (X : Cx) (ea : EA) (Wx : WX) (tg iter : Expr) (m : Mo Wk) : Prop where
  ex : ∃ wi, PI X tg iter wi ∧ RefI X.K X.mg ea Wx wi m
theorem Peg.can {tg : Expr} {t : W → Mo Unit} {l : List Nat} (h : Peg X ea tg t l) : PG X tg (gOf X.K X.mg ea t l) := by
  obtain ⟨g, p, r⟩ := h.ex
  exact ⟨fun pins s σ H v u Q I rv ⟨io, Fr, s1, w, r0, s', S0, R, e, h⟩ => p.run pins s σ H v u Q I rv (r.go σ H io Fr s1 w v S0 R r0 s' e Q h)⟩
theorem Peg.ne {tg : Expr} {t : W → Mo Unit} {l : List Nat} (h : Peg X ea tg t l) : ∀ w s r s', t w s = some (r, s') → r = .ok () := let ⟨_, _, r⟩ := h.ex; r.ne
theorem PI.or {tg iter : Expr} {wi wi' : TI} (h : PI X tg iter wi) (h' : PI X tg iter wi') : PI X tg iter (fun σ H R => wi σ H R ∨ wi' σ H R) := ⟨fun pins s σ H R I q => q.elim (h.run pins s σ H R I) (h'.run pins s σ H R I)⟩

/-! ### expressions -/
theorem pee_ife (hc : Pet X ea Wx c mt) (ha : Pee X ea Wx a ma) (hb : Pee X ea Wx b mb) : Pee X ea Wx (.IfExp c a b pos) (mIfE mt ma mb) :=
  let ⟨_, p, r⟩ := hc.ex; let ⟨_, p1, r1⟩ := ha.ex; let ⟨_, p2, r2⟩ := hb.ex; ⟨_, pe_ifExp p p1 p2, ref_ife r r1 r2⟩
theorem pee_one {op} (h : Pee X ea Wx a ma) : Pee X ea Wx (.BoolOp op [a] pos) ma := let ⟨_, p, r⟩ := h.ex; ⟨_, pe_one p, r⟩
theorem pee_and {es : List Expr} (ha : Pee X ea Wx a ma) (hb : Pee X ea Wx (.BoolOp .And (b :: es) pos) mb) : Pee X ea Wx (.BoolOp .And (a :: b :: es) pos) (mAndV ma mb) :=
  let ⟨_, p1, r1⟩ := ha.ex; let ⟨_, p2, r2⟩ := hb.ex; ⟨_, L2.pe_and p1 p2, ref_andV r1 r2⟩
theorem pee_or {es : List Expr} (ha : Pee X ea Wx a ma) (hb : Pee X ea Wx (.BoolOp .Or (b :: es) pos) mb) : Pee X ea Wx (.BoolOp .Or (a :: b :: es) pos) (mOrV ma mb) :=
  let ⟨_, p1, r1⟩ := ha.ex; let ⟨_, p2, r2⟩ := hb.ex; ⟨_, L2.pe_or p1 p2, ref_orV r1 r2⟩
theorem pee_not (ha : Pee X ea Wx a ma) : Pee X ea Wx (.UnaryOp .Not a pos) (mNotV ma) := let ⟨_, p1, r1⟩ := ha.ex; ⟨_, L2.pe_not p1, ref_notV r1⟩
/-! ### targets, walks -/
theorem peg_name (i : Nat) {x : Str} (hN : X.N.Nodup) (hi : X.N[i]? = some x := by rfl) (hx : Loc X.env.scope x := by first | exact Or.inl rfl | exact Or.inr rfl) (hf : X.fn x = true ∨ X.env.scope.names.lookup x = some .local := by first | exact .inl rfl | exact .inr rfl) :
    Peg X ea (.Name x pos) (tgN i) [i] := ⟨_, pg_name hN hi hx hf, ref_tgN i⟩
theorem pegs_nil : Pegs X ea [] tgsNil [] := ⟨_, pgs_nil, ref_tgsNil⟩
theorem pegs_cons {es : List Expr} {t : W → Mo Unit} {u : List W → Mo Unit} {l l' : List Nat} (h1 : Peg X ea e t l) (h2 : Pegs X ea es u l') (hs : (assignEach (e :: es) X.env).map (·.2) = assign e X.env :: (assignEach es X.env).map (·.2) := by rfl) :
    Pegs X ea (e :: es) (tgsCons t u) (l ++ l') := let ⟨_, p, r⟩ := h1.ex; let ⟨_, p', r'⟩ := h2.ex; ⟨_, pgs_cons p p' hs, ref_tgsCons r r'⟩
theorem peg_tup {es : List Expr} {k : Nat} {u : List W → Mo Unit} {l : List Nat} {n : Nat} (h : Pegs X ea es u l) (hc : X.calm = true := by rfl) (hn : (assignEach es X.env).length = n := by rfl) (hst : (assignEach es X.env).findIdx? (·.1) = none := by rfl) :
    Peg X ea (.Tuple es k pos) (tgT n u) l := let ⟨_, p, r⟩ := h.ex; ⟨_, pg_tup hc p hn hst, ref_tgT r⟩
theorem pei_seq {tg : Expr} (h : Pee X ea Wx e m) : Pei X ea Wx tg e (mIter m) := let ⟨_, p, r⟩ := h.ex; ⟨_, PI.or (pi_list p) (pi_tup p), ref_iter r⟩
theorem pei_rng1 {tg : Expr} {p : Pos} {ms : Mo (List RV)} (hm : X.mg "range" = none) (ha : Pea X ea Wx [a] ms) (hg : Gl X "range" := by rfl) (hs : starEach [a] X.env = [(false, eval a X.env)] := by rfl) : Pei X ea Wx tg (.Call (.Name "range" p) [a] [] pos) (mRng1 ms) :=
  let ⟨_, p, r⟩ := ha.ex; ⟨_, pi_range1 hg hm p hs, ref_rng1 r⟩
theorem pei_rng2 {tg : Expr} {p : Pos} {ms : Mo (List RV)} (hm : X.mg "range" = none) (ha : Pea X ea Wx [a, b] ms) (hg : Gl X "range" := by rfl) (hs : starEach [a, b] X.env = [(false, eval a X.env), (false, eval b X.env)] := by rfl) (hs2 : starEach [b] X.env = [(false, eval b X.env)] := by rfl) :
    Pei X ea Wx tg (.Call (.Name "range" p) [a, b] [] pos) (mRng2 ms) := let ⟨_, p, r⟩ := ha.ex; ⟨_, pi_range2 hg hm p hs hs2, ref_rng2 r⟩
/-! ### statements -/
theorem pess_nil : Pess X ea Wx [] mNext := ⟨_, pss_nil, ref_next⟩
theorem pess_cons (h : Pes X ea Wx st f) (h' : Pess X ea Wx rest g) : Pess X ea Wx (st :: rest) (mSeq f g) := let ⟨_, p, r⟩ := h.ex; let ⟨_, p', r'⟩ := h'.ex; ⟨_, pss_cons p p', ref_seq r r'⟩
theorem pess_one (h : Pes X ea Wx st f) : Pess X ea Wx [st] f := let ⟨_, p, r⟩ := h.ex; ⟨_, pss_one p, r⟩
theorem pes_pass : Pes X ea Wx (.Pass pos) mNext := ⟨_, ps_pass, ref_next⟩
theorem pes_break : Pes X ea Wx (.Break pos) mBreak := ⟨_, ps_break, ref_break⟩
theorem pes_cont : Pes X ea Wx (.Continue pos) mCont := ⟨_, ps_continue, ref_cont⟩
theorem pes_doc {x j} : Pes X ea Wx (.Expr (.Constant (.str x) j pos) pos') mNext := ⟨_, ps_doc, ref_next⟩
theorem pes_expr (h : Pee X ea Wx e m) (hs : swapsWith e none pos.line X.env = pure false := by rfl) : Pes X ea Wx (.Expr e pos) (mDrop m) := let ⟨_, p, r⟩ := h.ex; ⟨_, ps_expr p hs, ref_drop r⟩
theorem pes_ret (h : Pee X ea Wx e m) : Pes X ea Wx (.Return (some e) pos) (mRet m) := let ⟨_, p, r⟩ := h.ex; ⟨_, ps_ret p, ref_ret r⟩
theorem pes_retN : Pes X ea Wx (.Return none pos) mRetN := ⟨_, ps_retN, ref_retN⟩
theorem pes_if (hc : Pet X ea Wx c mt) (h : Pess X ea Wx sts f) (h' : Pess X ea Wx rest g) : Pes X ea Wx (.If c sts rest pos) (mIf mt f g) := let ⟨_, p, r⟩ := hc.ex; let ⟨_, p1, r1⟩ := h.ex; let ⟨_, p2, r2⟩ := h'.ex; ⟨_, ps_if p p1 p2, ref_if r r1 r2⟩
theorem pes_set (i : Nat) {x : Str} {pos' : Pos} (hN : X.N.Nodup) (he : Pee X ea Wx e m) (hi : X.N[i]? = some x := by rfl) (hx : Loc X.env.scope x := by first | exact Or.inl rfl | exact Or.inr rfl) (hs : swapsWith e (some (.Name x pos')) pos.line X.env = pure false := by rfl) (hf : X.fn x = true ∨ X.env.scope.names.lookup x = some .local := by first | exact .inl rfl | exact .inr rfl) :
    Pes X ea Wx (.Assign [.Name x pos'] e pos) (mAsg i m) := let ⟨_, p, r⟩ := he.ex; ⟨_, ps_set hN hi hx p hs hf, ref_asg i r⟩
theorem pes_asg {tg : Expr} {t : W → Mo Unit} {l : List Nat} (he : Pee X ea Wx e m) (hg : Peg X ea tg t l) (hs : swapsWithSole [tg] e pos.line X.env = pure false := by rfl) (hw : swappedStores [tg] e X.env = pure none := by rfl)
    (h1 : (assignEach [tg] X.env).map (·.2) = [assign tg X.env] := by rfl) : Pes X ea Wx (.Assign [tg] e pos) (mAsgT t m) := let ⟨_, p, r⟩ := he.ex; let ⟨_, p', r'⟩ := hg.ex; ⟨_, ps_asg p p' hs hw h1, ref_asgT r r'⟩
theorem pes_for {tg iter : Expr} {mi : Mo Wk} {t : W → Mo Unit} {l : List Nat} (hp : PassesOwn (model X.prog X.w) X.A X.env X.xe) (hi : Pei X ea Wx tg iter mi) (hg : Peg X ea tg t l) (hb : Pess X ea Wx sts f) (hc : X.calm = true := by rfl) (hs : ∀ x, foldedSetIterable iter X.env x = pure x := by intro _; rfl) :
    Pes X ea Wx (.For tg iter sts [] pos) (mFor mi t f) := let ⟨_, p, r⟩ := hi.ex; let ⟨_, p1, r1⟩ := hg.ex; let ⟨_, p2, r2⟩ := hb.ex; ⟨_, ps_for hp hc p p1 p2 hs, ref_for r r1 r2⟩
/-! ### comprehensions -/
section
variable {elt tg iter : Expr} {ifs : List Expr} {scope : Scope} {own : List (Str × Nat)} {mi : Mo Wk} {t : W → Mo Unit} {l : List Nat} {me : Mo RV}
structure Pets (X : Cx) (ea : EA) (Wx : WX) (ifs : List Expr) (m : Mo Bool) : Prop where
  ex : ∃ t, PTs X ifs t ∧ RefT X.K X.mg ea Wx t m
theorem Pets.can {m : Mo Bool} (h : Pets X ea Wx ifs m) : PTs X ifs (ttOf X.K X.mg ea Wx m) := by
  obtain ⟨t, p, r⟩ := h.ex
  exact ⟨fun pins s σ H Q I ⟨io, Fr, s1, r0, s', S0, e, h1, h2⟩ => p.run pins s σ H Q I (r σ H io Fr s1 S0 r0 s' e Q h1 h2)⟩
def mYes : Mo Bool := ret true
theorem pets_nil : Pets X ea Wx [] mYes := ⟨_, pts_nil, fun σ H io Fr s S0 r0 s' e Q hok _ => by cases e; exact hok _ rfl _ _ ⟨S0, .refl⟩⟩
theorem pets_one (h : Pet X ea Wx c mt) : Pets X ea Wx [c] mt := let ⟨_, p, r⟩ := h.ex; ⟨_, pts_one p, r⟩
/-- the parts of a comprehension's block -/
theorem tgN_ne (i : Nat) : ∀ w s r s', tgN i w s = some (r, s') → r = .ok () := fun w s r s' e => by cases e; rfl
theorem tgsNil_ne : ∀ w s r s', tgsNil w s = some (r, s') → r = .ok () := fun w s r s' e => by
  cases w with
  | nil => cases e; rfl
  | cons _ _ => cases e
theorem tgsCons_ne {t : W → Mo Unit} {u : List W → Mo Unit} (h : ∀ w s r s', t w s = some (r, s') → r = .ok ()) (h' : ∀ w s r s', u w s = some (r, s') → r = .ok ()) : ∀ w s r s', tgsCons t u w s = some (r, s') → r = .ok () := fun w s r s' e => by
  cases w with
  | nil => cases e
  | cons w ws =>
    rcases bnd_some e with ⟨x, e1, rfl⟩ | ⟨_, s1, e1, e2⟩
    · have := h _ _ _ _ e1
      cases this
    · exact h' _ _ _ _ e2
theorem tgT_ne {n : Nat} {u : List W → Mo Unit} (h : ∀ w s r s', u w s = some (r, s') → r = .ok ()) : ∀ w s r s', tgT n u w s = some (r, s') → r = .ok () := fun w s r s' e => by
  unfold tgT at e
  split at e
  · split at e
    · exact h _ _ _ _ e
    · cases e
  · cases e
structure Blk (X : Cx) (ea : EA) (tg elt : Expr) (ifs : List Expr) (scope : Scope) (own : List (Str × Nat)) (t : W → Mo Unit) (l : List Nat) (mt : Mo Bool) (me : Mo RV) : Prop where
  ok : BlkOk X.N X.env.scope scope own
  ne : ∀ w s r s', t w s = some (r, s') → r = .ok ()
  sub : ∀ i ∈ l, i ∈ own.map (·.2)
  tg : ∀ (s : Shared) (H : Hp) (C : Addr) (cl : List (Str × Addr)) (fp : List Addr), Peg (X.blk s H scope (compEnvC scope cl C X.env) fp) ea tg t l
  ts : ∀ (s : Shared) (H : Hp) (C : Addr) (cl : List (Str × Addr)) (fp : List Addr), Pets (X.blk s H scope (compEnvC scope cl C X.env) fp) ea W0 ifs mt
  el : ∀ (s : Shared) (H : Hp) (C : Addr) (cl : List (Str × Addr)) (fp : List Addr), Pee (X.blk s H scope (compEnvC scope cl C X.env) fp) ea W0 elt me
theorem pee_lc (hN : X.N.Nodup) (hi : Pei X ea Wx tg iter mi) (b : Blk X ea tg elt ifs scope own t l mt me) (hc : X.calm = true := by rfl) (hs : ∀ x, foldedSetIterable iter X.env x = pure x := by intro _; rfl) :
    Pee X ea Wx (.ListComp elt [⟨tg, iter, ifs, 0⟩] scope pos) (mLc (own.map (·.2)) mi t mt me) := by
  obtain ⟨wi, p, r⟩ := hi.ex
  exact ⟨_, pe_lc hc hN p b.ok (fun s H C cl fp => (b.tg s H C cl fp).can) (fun s H C cl fp => (b.ts s H C cl fp).can) (fun s H C cl fp => (b.el s H C cl fp).can) hs,
    ref_lc r (ref_gOf b.ne) b.sub (ref_ttOf _) (ref_tOf _)⟩
theorem pes_setLc (i : Nat) {y : Str} {py spos : Pos} (hN : X.N.Nodup) (hi : Pei X ea Wx tg iter mi) (b : Blk X ea tg elt ifs scope own t l mt me) (hy : X.N[i]? = some y := by rfl) (hyl : X.env.scope.names.lookup y = some .local := by rfl)
    (hsw : swapsWith (.ListComp elt [⟨tg, iter, ifs, 0⟩] scope pos) (some (.Name y py)) spos.line X.env = pure true := by exact sw_true rfl rfl rfl (by decide +kernel)) (hc : X.calm = true := by rfl) (hs : ∀ x, foldedSetIterable iter X.env x = pure x := by intro _; rfl) :
    Pes X ea Wx (.Assign [.Name y py] (.ListComp elt [⟨tg, iter, ifs, 0⟩] scope pos) spos) (mAsg i (mLc (own.map (·.2)) mi t mt me)) := by
  obtain ⟨wi, p, r⟩ := hi.ex
  exact ⟨_, ps_setLc hc hN hy hyl hsw p b.ok (fun s H C cl fp => (b.tg s H C cl fp).can) (fun s H C cl fp => (b.ts s H C cl fp).can) (fun s H C cl fp => (b.el s H C cl fp).can) hs,
    ref_asg i (ref_lc r (ref_gOf b.ne) b.sub (ref_ttOf _) (ref_tOf _))⟩
end
end

/-! ### defs -/
abbrev Fn := List W → List Cell → Option (Except Ex FV × List Cell)
section
variable {K : PySem.W.Frag} {mg : Str → Option Value} {ea : EA} {io io' : List Addr} {Fr Fr' : Addr → Prop} {s s' s2 : S} {σ σ' : L2.St} {H H' : Hp} {w : W} {v : V} {c : Cell} {o : HO} {a p : Addr} {ws : List W} {vs : List V} {M : Addr → Prop}
def PostXF (K : PySem.W.Frag) (mg : Str → Option Value) (io : List Addr) (M Fr : Addr → Prop) (H : Hp) (G' : List Cell) (io' : List Addr) (H' : Hp) (x : Ex) (cls : Value) (d : Option Addr) : Prop :=
  GSim K mg io' Fr G' H' ∧ Stp io M Fr H io' (Mu io' Fr) H' ∧ ExR K mg io' (Mu io' Fr) H' x cls d
def spM (K : PySem.W.Frag) (mg : Str → Option Value) (n : Nat) (m : Fn) : Sp := fun vs H Q E => vs.length = n ∧ ∃ io Fr G ws r G', GSim K mg io Fr G H ∧ Rws K mg io (Mu io Fr) H ws vs ∧ m ws G = some (r, G') ∧
  (∀ f, r = .ok f → ∀ v H' io', PostF K mg io (Mu io Fr) Fr H G' io' H' f v → Q v H') ∧ (∀ x, r = .error x → ∀ cls d H' io', PostXF K mg io (Mu io Fr) Fr H G' io' H' x cls d → E cls d H')
structure FnM (P : Program) (w : World) (K : PySem.W.Frag) (mg : Str → Option Value) (base : Heap) (k : Nat) (f : Addr) (fd : FuncData) (ps : List Str) (m : Fn) : Prop where
  ok : FnOk P w K mg base (L2.CX P w) k f fd ps (spM K mg ps.length m)
def fnM (n : Nat) (body : Mo Fl) : Fn := fun ws G => match body ⟨ws.map SV.val ++ List.replicate (n - ws.length) SV.non, G⟩ with
  | some (.ok (.rt f), s) => some (.ok f, s.G)
  | some (.ok .nx, s) => some (.ok (.val .non), s.G)
  | some (.error x, s) => some (.error x, s.G)
  | _ => none
theorem sim_start {n : Nat} {N : List Str} (hn : N.length = n) (hl : vs.length ≤ n) (g : GSim K mg io Fr s.G H) (r : Rws K mg io (Mu io Fr) H ws vs) : Sim K mg ea io Fr ⟨ws.map SV.val ++ List.replicate (n - ws.length) SV.non, s.G⟩ (L2.start N vs) H ∧
    (∀ b, Ms io Fr ⟨ws.map SV.val ++ List.replicate (n - ws.length) SV.non, s.G⟩ (L2.start N vs) b ↔ Mu io Fr b) := by
  have no : ∀ (i : Nat) (c : Cell), (ws.map SV.val ++ List.replicate (n - ws.length) SV.non)[i]? ≠ some (SV.own c) := fun i c h => by
    rcases Nat.lt_or_ge i (ws.map SV.val).length with q | q
    · rw [List.getElem?_append_left q, List.getElem?_map] at h
      cases e : ws[i]? <;> rw [e] at h <;> cases h
    · rw [List.getElem?_append_right q] at h
      have h2 := List.mem_of_getElem? h
      have h3 := List.eq_of_mem_replicate h2
      cases h3
  have fo : ∀ b, FrO Fr (ws.map SV.val ++ List.replicate (n - ws.length) SV.non) (L2.start N vs) b ↔ Fr b := fun b => ⟨fun z => z.elim id fun ⟨i, c, h, _⟩ => (no i c h).elim, .inl⟩
  have mo : ∀ b, Ms io Fr ⟨ws.map SV.val ++ List.replicate (n - ws.length) SV.non, s.G⟩ (L2.start N vs) b ↔ Mu io Fr b := fun b => ⟨fun z => z.imp id (fo b).1, fun z => z.imp id .inl⟩
  refine ⟨⟨?_, g.less (s := s) fun b z => (fo b).1 z, fun i u e => ?_, fun i c e => (no i c e).elim, fun i j c d a e => (no i c e).elim, fun i y e => ?_⟩, mo⟩
  · simp only [L2.start, List.length_append, List.length_map, List.length_replicate, hn]
    have := r.1
    omega
  · have hi : i < (ws.map SV.val).length := by
      rcases Nat.lt_or_ge i (ws.map SV.val).length with q | q
      · exact q
      · simp only at e
        rw [List.getElem?_append_right q] at e
        have h3 := List.eq_of_mem_replicate (List.mem_of_getElem? e)
        cases h3
    simp only at e
    rw [List.getElem?_append_left hi, List.getElem?_map] at e
    cases q : ws[i]? with
    | none => rw [q] at e; cases e
    | some u' =>
      rw [q] at e
      cases e
      obtain ⟨v, h1, h2⟩ := r.get q
      have hv := get_lt h1
      refine ⟨v, ?_, h2.pers (.less fun b z => (mo b).1 z)⟩
      unfold L2.start
      rw [List.getElem?_append_left (by simpa using hv), List.getElem?_map, h1]
      rfl
  · exfalso
    simp only at e
    rcases Nat.lt_or_ge i (ws.map SV.val).length with q | q
    · rw [List.getElem?_append_left q, List.getElem?_map] at e
      cases k : ws[i]? <;> rw [k] at e <;> cases e
    · rw [List.getElem?_append_right q] at e
      have h3 := List.eq_of_mem_replicate (List.mem_of_getElem? e)
      cases h3
theorem defM {P : Program} {w : World} {base : Heap} {x qual : Str} {st : Stmt} {f : Addr} {fd : FuncData} {N ps : List Str} {k n : Nat} {body : Mo Fl} (F : Fun K x qual st f fd) (S : FnScope N ps (defScope st)) (hn : N.length = n)
    (hb : ∀ (cdv : Value) (A : Around) (outer : List Env) (s : Shared) (H : Hp) (E : XK), Room k (A.deeper (envOfC qual (defScope st) s.heap.objs.size f cdv)) →
      Pess (cxOf (L2.CX P w) P w K mg base N qual (defScope st) f cdv A outer s H E) ea0 (fun cls d _ H => E cls d H) (defBody st) body) : FnM P w K mg base (k + 1) f fd ps (fnM n body) := by
  refine ⟨F.okX S (fun vs H Q E h => h.1) fun cdv A outer s H vs Q E hr h => ?_⟩
  obtain ⟨hl, io, Fr, G, ws, r, G', g, R, e, hok, hex⟩ := h
  obtain ⟨t, p, rf⟩ := (hb cdv A outer s H E hr).ex
  refine ⟨t, p, ?_⟩
  have hps : ps.length ≤ n := by
    have := congrArg List.length S.pre
    rw [List.length_take] at this
    omega
  obtain ⟨S0, mo⟩ := sim_start (ea := ea0) (s := ⟨[], G⟩) hn (by omega) g R
  unfold fnM at e
  have T0 : ∀ {M' : Addr → Prop} {io' : List Addr} {H' : Hp}, Stp io (Ms io Fr ⟨ws.map SV.val ++ List.replicate (n - ws.length) SV.non, G⟩ (L2.start N vs)) Fr H io' M' H' → Stp io (Mu io Fr) Fr H io' M' H' := fun T =>
    (Stp.refl.less fun b z => (mo b).1 z : Stp io (Mu io Fr) Fr H io (Ms io Fr ⟨ws.map SV.val ++ List.replicate (n - ws.length) SV.non, G⟩ (L2.start N vs)) H).trans T
  cases k : body ⟨ws.map SV.val ++ List.replicate (n - ws.length) SV.non, G⟩ with
  | none => rw [k] at e; cases e
  | some pr =>
    obtain ⟨rb, sb⟩ := pr
    rw [k] at e
    refine rf _ _ _ _ _ S0 _ _ k _ (fun q σ' H' io' px => ?_) (fun q σ' H' io' px => ?_) (fun q σ' H' io' px => ?_) (fun f q v H' io' px => ?_) fun xx q cls d σ' H' io' px => ?_
    · subst q
      cases e
      exact hok _ rfl _ _ _ ⟨px.1.g.less (s := sb) fun b z => .inl z, (T0 px.2).less fun b z => z.imp id .inl, .non⟩
    · subst q; cases e
    · subst q; cases e
    · subst q
      cases e
      cases f with
      | val w => exact hok _ rfl v H' io' ⟨px.1, T0 px.2.1, px.2.2⟩
      | own c =>
        obtain ⟨a, o, h1, h2, h3, h4, h5, h6⟩ := px
        exact hok _ rfl v H' io' ⟨a, o, h1, h2, h3, h4, T0 h5, h6⟩
    · subst q
      cases e
      obtain ⟨x1, x2, C, x3, x4, x5⟩ := px
      have le : ∀ b, Mu io' Fr b → Ms io' Fr sb σ' b := fun b z => z.imp id .inl
      refine hex _ rfl cls d H' io' ⟨x1.g.less (s := sb) fun b z => .inl z, (T0 x2).less le, C, x3, x4, x5.imp id ?_⟩
      rintro ⟨dd, us, y1, y2, y3, y4⟩
      exact ⟨dd, us, y1, y2, fun z => y3 (le _ z), y4.pers (.less le)⟩
def rvOf : FV → RV
  | .val w => .val w
  | .own c => .own c
def callG (m : Fn) (ws : List W) : Mo RV := fun s => match m ws s.G with
  | some (.ok f, G') => some (.ok (rvOf f), { s with G := G' })
  | some (.error x, G') => some (.error x, { s with G := G' })
  | none => none
theorem ExR.congr {x : Ex} {cls : Value} {d : Option Addr} {M M' : Addr → Prop} (h : ∀ b, M' b → M b) (e : ExR K mg io M H x cls d) : ExR K mg io M' H x cls d := by
  obtain ⟨C, x3, x4, x5⟩ := e
  refine ⟨C, x3, x4, x5.imp id ?_⟩
  rintro ⟨dd, us, y1, y2, y3, y4⟩
  exact ⟨dd, us, y1, y2, fun z => y3 (h _ z), y4.pers (.less h)⟩
theorem fro_pls {r : List SV} : ∀ b, FrO (pls Fr a) r σ b ↔ pls (FrO Fr r σ) a b := fun b => by
  constructor
  · rintro ((z | z) | z)
    · exact .inl (.inl z)
    · exact .inr z
    · exact .inl (.inr z)
  · rintro ((z | z) | z)
    · exact .inl (.inl z)
    · exact .inr z
    · exact .inl (.inr z)
/-- a call's promise from where one stands -/
theorem spM_use {Wx : WX} {n : Nat} {m : Fn} (S0 : Sim K mg ea io Fr s σ H) (R : Rws K mg io (Ms io Fr s σ) H ws vs) (hn : vs.length = n) {r : Except Ex RV} (e : callG m ws s = some (r, s')) {Q : VK}
    (hok : ∀ x, r = .ok x → ∀ v H' io', PostE K mg ea io Fr s σ H s' io' H' x v → Q v H') (hex : ∀ x, r = .error x → ∀ cls d H' io', PostX K mg ea io Fr s σ H s' σ io' H' x cls d → Wx cls d σ H') : spM K mg n m vs H Q (WE Wx σ) := by
  unfold callG at e
  have nown : ∀ a (i : Nat) c, s.r[i]? = some (.own c) → σ[i]? = some (some (V.ref a)) → ¬ Fr a := fun a i c h1 h2 => by
    obtain ⟨b, o, q1, _, _, q4⟩ := S0.own i c h1
    rw [h2] at q1; cases q1
    exact q4
  split at e
  · rename_i f G' k
    cases e
    refine ⟨hn, io, FrO Fr s.r σ, s.G, ws, _, G', S0.g, R, k, fun f' q v H' io' p => ?_, (fun _ q => by cases q)⟩
    cases q
    cases f with
    | val w =>
      obtain ⟨g, T, r⟩ := p
      exact hok _ rfl v H' io' ⟨S0.call g T nown, T.frless fun b z => .inl z, r⟩
    | own c =>
      obtain ⟨a, o, rfl, ha, nf, g, T, r⟩ := p
      have g' : GSim K mg io' (FrO (pls Fr a) s.r σ) G' H' := g.less (s := { s with G := G' }) fun b z => (fro_pls b).1 z
      have le : ∀ b, Mu io' (FrO (pls Fr a) s.r σ) b → Mu io' (pls (FrO Fr s.r σ) a) b := fun b z => z.imp id (fro_pls b).1
      refine hok _ rfl _ H' io' ⟨a, o, rfl, ha, nf, S0.call g' (T.less le) fun b i c h1 h2 z => ?_, (T.less le).frless fun b z => .inl z, r.pers (.less le)⟩
      rcases z with z | z
      · exact nown b i c h1 h2 z
      · subst z
        exact nf (.inr ⟨i, c, h1, h2⟩)
  · rename_i x G' k
    cases e
    refine ⟨hn, io, FrO Fr s.r σ, s.G, ws, _, G', S0.g, R, k, (fun _ q => by cases q), fun x' q cls d H' io' p => ?_⟩
    cases q
    exact hex _ rfl cls d H' io' ⟨S0.call p.1 p.2.1 nown, p.2.1.frless fun b z => .inl z, p.2.2⟩
  · cases e
def mCall (n : Nat) (m : Fn) (ms : Mo (List RV)) : Mo RV := bnd ms fun xs => bnd (freezeAll xs) fun ws => if ws.length = n then callG m ws else stk
theorem ref_call {Wx : WX} {n : Nat} {m : Fn} {ta : TA} {ms : Mo (List RV)} (ha : RefA K mg ea Wx ta ms) : RefE K mg ea Wx (tCallS (spM K mg n m) (WE Wx) ta) (mCall n m ms) := by
  intro σ H io Fr s S0 r0 s' e Q hok hex
  refine arg2 ha S0 e hex fun xs vs s1 H1 io1 e2 px R1 => ?_
  rcases bnd_some e2 with ⟨x, e3, rfl⟩ | ⟨ws, s2, e3, e4⟩
  · obtain ⟨_, _, _, _, q, _⟩ := freezeAll_ok px.1 R1 e3
    cases q
  · obtain ⟨_, m2, S2, ws', q, r2⟩ := freezeAll_ok px.1 R1 e3
    cases q
    split at e4
    · rename_i hn
      have T2 := px.2.less m2
      exact spM_use S2 r2 (by rw [← r2.1]; exact hn) e4 (fun x q v H' io' p => hok x q v H' io' (p.trans T2)) fun x q cls d H' io' p => hex x q cls d H' io' ⟨p.1, T2.trans p.2.1, p.2.2⟩
    · cases e4
end
section
variable {X : Cx} {ea : EA} {Wx : WX} {e : Expr} {es : List Expr} {ms : Mo (List RV)} {m : Fn} {k : Nat} {f : Addr} {fd : FuncData} {ps : List Str} {x : Str} {p pos : Pos}
theorem pee_call (F : FnM X.prog X.w X.K X.mg X.base k f fd ps m) (hr : Room k X.A) (hm : X.mg x = some (.ref f)) (hk : PySem.W.keepIn X.K (.ref f) = true) (hb : Binds X.K fd ps []) (tk : Takes X Wx) (ha : Pea X ea Wx (e :: es) ms)
    (hg : Gl X x := by rfl) (hdb : (x == ("__debug__" : Str)) = false := by decide) (he : starEach (e :: es) X.env = (false, eval e X.env) :: starEach es X.env := by rfl) (hpl : (backTo pos (starEach es X.env)).any (·.1) = false := by rfl) :
    Pee X ea Wx (.Call (.Name x p) (e :: es) [] pos) (mCall ps.length m ms) := by
  obtain ⟨t, q, r⟩ := ha.ex
  exact ⟨_, pe_callS F.ok hr hg hm hk hb (fun σ => passAt tk σ) q hdb he hpl, ref_call r⟩
end
end Z

set_option Elab.async false
set_option linter.all false
set_option maxRecDepth 100000
/-! Z10: attributes, methods, instances made. -/
namespace Z
open PySem PySem.Spec PyProof.Rows L2
section
variable {X : Cx} {CX : CXT} {k : Nat} {f C : Addr} {fd : FuncData} {ps : List Str} {sp : Sp} {dvs : List V} {ds : List Value} {E : L2.St → XK} {x m : Str} {p pos apos : Pos} {e o : Expr} {es : List Expr} {ta : TE} {t : TA}
def tMethS (C : Addr) (m : Str) (sp : Sp) (dvs : List V) (E : L2.St → XK) (ta : TE) (t : TA) : TE := fun σ H Q => ta σ H fun x H1 => ∃ a dx fs, x = .ref a ∧ H1 a = some (.ins C dx fs) ∧ fs.lookup m = none ∧ t σ H1 fun vs H2 => sp (.ref a :: (vs ++ dvs)) H2 Q (E σ)
/-- how a method's call reads -/
abbrev MethRead (X : Cx) (o : Expr) (m : Str) (apos pos : Pos) (args : List Expr) (pl : Sem Bool) : Prop := eval (.Call (.Attribute o m apos) args [] pos) X.env = (do
  let ov ← eval o X.env
  standAt apos.atName
  let (g, us) ← holding [ov] (getMethod ov m pl)
  callWith pos g us (backTo pos (starEach args X.env)) (backToKw pos (keywordEach [] X.env)))
/-- the object of a method's call is read, and the method found -/
theorem meth_go {pl : Sem Bool} {args : List Expr} (he : PE X o ta) (c : Cls X.K C) (hm : Meth X.K C m f) (ht : MethRead X o m apos pos args pl) {pins : List (Addr × Obj)} {s : Shared} {σ : L2.St} {H : Hp} {Q : VK} {T : Addr → Hp → Prop} (I : Inv X pins σ H s)
    (h : ta σ H fun x H1 => ∃ a dx fs, x = .ref a ∧ H1 a = some (.ins C dx fs) ∧ fs.lookup m = none ∧ T a H1)
    (go : ∀ a s1 H1, Inv X pins σ H1 s1 → T a H1 → wpAny (model X.prog X.w) X.A (callWith pos (.ref f) [.ref a] (backTo pos (starEach args X.env)) []) (EP X pins σ Q) X.xe s1) :
    wpAny (model X.prog X.w) X.A (eval (.Call (.Attribute o m apos) args [] pos) X.env) (EP X pins σ Q) X.xe s := by
  apply PySem.W.methodCall_KW (pl := pl) _ ht
  apply thn (he.run pins s σ H _ I h)
  rintro _ s1 ⟨_, H1, J, e, a, dx, fs, rfl, e1, e2, q⟩
  cases e
  exact getmeth_ok J e1 c hm e2 (go a s1 H1 J q)
/-- the arguments of a call are worked out -/
theorem args_go {g : Addr} {first : List Value} (kp : PySem.W.keepIn X.K (.ref g) = true) (ha : PA X (e :: es) t) (hst : starEach (e :: es) X.env = (false, eval e X.env) :: starEach es X.env) (hpl : (backTo pos (starEach es X.env)).any (·.1) = false)
    {pins : List (Addr × Obj)} {s : Shared} {σ : L2.St} {H : Hp} {Q : Value → Shared → Prop} {T : List V → Hp → Prop} (I : Inv X pins σ H s) (h : t σ H T)
    (go : ∀ us vs s1 H1, Inv X pins σ H1 s1 → Vals vs us → T vs H1 → wpAny (model X.prog X.w) X.A (call (.ref g) (first ++ us)) Q X.xe s1) :
    wpAny (model X.prog X.w) X.A (callWith pos (.ref g) first (backTo pos (starEach (e :: es) X.env)) []) Q X.xe s := by
  apply PySem.W.callWith_K I.ok.mod.kin kp _ hst hpl
  apply thn (ha.run pos pins s σ H _ I h)
  rintro us s1 ⟨vs, H1, J, r, q⟩
  exact ⟨J.kIn, go us vs s1 H1 J r q⟩
theorem pe_methS {pl : Sem Bool} (he : PE X o ta) (c : Cls X.K C) (hm : Meth X.K C m f) (F : FnOk X.prog X.w X.K X.mg X.base CX k f fd ps sp) (hr : Room k X.A) (hb : Binds X.K fd ps ds) (hd : Vals dvs ds) (hx : ∀ σ, PassesAt CX X σ (E σ)) (ha : PA X (e :: es) t)
    (hst : starEach (e :: es) X.env = (false, eval e X.env) :: starEach es X.env) (hpl : (backTo pos (starEach es X.env)).any (·.1) = false) (ht : MethRead X o m apos pos (e :: es) pl) : PE X (.Call (.Attribute o m apos) (e :: es) [] pos) (tMethS C m sp dvs E ta t) :=
  ⟨fun pins s σ H Q I h => meth_go he c hm ht I h fun a s1 H1 J q => args_go hm.kp ha hst hpl J q fun us vs s2 H2 J2 r q2 => run_fnSD (us := .ref a :: us) (vs := .ref a :: vs) F hr hb hd (hx σ) J2 (.cons rfl r) q2⟩
theorem pe_methS0 {pl : Sem Bool} (he : PE X o ta) (c : Cls X.K C) (hm : Meth X.K C m f) (F : FnOk X.prog X.w X.K X.mg X.base CX k f fd ps sp) (hr : Room k X.A) (hb : Binds X.K fd ps ds) (hd : Vals dvs ds) (hx : ∀ σ, PassesAt CX X σ (E σ)) (ht : MethRead X o m apos pos [] pl) :
    PE X (.Call (.Attribute o m apos) [] [] pos) (tMethS C m sp dvs E ta tNil) :=
  ⟨fun pins s σ H Q I h => meth_go he c hm ht I h fun a s1 H1 J q => PySem.W.callWith_K0 J.kIn hm.kp (run_fnSD (us := [.ref a]) (vs := [.ref a]) F hr hb hd (hx σ) J (.cons rfl .nil) q)⟩
theorem run_makeS {pins : List (Addr × Obj)} {σ : L2.St} {H : Hp} {s : Shared} {Q : VK} {us : List Value} {vs : List V} (M : Mk X.K C f) (F : FnOk X.prog X.w X.K X.mg X.base CX k f fd ps sp) (hr : Room (k + 1) X.A) (hb : Binds X.K fd ps ds) (hd : Vals dvs ds)
    (hx : PassesAt CX X σ (E σ)) (I : Inv X pins σ H s) (r : Vals vs us)
    (h : ∀ x dx, H x = none → H dx = none → dx ≠ x → sp (.ref x :: (vs ++ dvs)) (upd (upd H dx (.own x)) x (.ins C dx [])) (fun v H2 => v = .non ∧ Q (.ref x) H2) (E σ)) : wpAny (model X.prog X.w) X.A (call (.ref C) us) (EP X pins σ Q) X.xe s := by
  -- the object lies behind its own dict
  generalize hn : s.heap.objs.size = n
  have new : ∀ j, n ≤ j → H j = none := fun j le => I.hok.fresh (by rw [hn]; exact le)
  have q := h (n + 1) n (new _ (Nat.le_succ n)) (new _ (Nat.le_refl n)) (Nat.ne_of_lt (Nat.lt_succ_self n))
  have J := Inv.made (C := C) I
  have all : Vals (V.ref (n + 1) :: (vs ++ dvs)) (Value.ref (n + 1) :: (us ++ ds)) := .cons rfl (r.append hd)
  have many : (Value.ref (n + 1) :: us ++ ds).length = ps.length := by simpa using all.length.symm.trans (F.len _ _ _ _ q)
  rw [hn] at J
  have body := F.run _ X.stack _ _ ⟨Value.ref (n + 1) :: us, []⟩ (Value.ref (n + 1) :: (us ++ ds)) _ _ (E σ) (hr.make C us []) (J.env0.make C us []) (hb _ (Value.ref (n + 1) :: us) J.kIn many) all q
  subst hn
  refine wpAny_call (make_map (f := f) I.kIn M.makes M.init (beq_iff_eq.mp M.fn) (codeAny_mono body ?_))
  rintro (er | (_ | _ | _ | u)) s' z
  · exact hx pins _ _ er s' J z
  · exact z.elim
  · exact z.elim
  · exact z.elim
  · obtain ⟨_, H', J', rv, rfl, q'⟩ := J.after z
    exact ⟨rv, V.ref _, H', J', rfl, q'⟩
def tMakeS (C : Addr) (sp : Sp) (dvs : List V) (E : L2.St → XK) (t : TA) : TE := fun σ H Q => t σ H fun vs H1 => ∀ x dx, H1 x = none → H1 dx = none → dx ≠ x → sp (.ref x :: (vs ++ dvs)) (upd (upd H1 dx (.own x)) x (.ins C dx [])) (fun v H2 => v = .non ∧ Q (.ref x) H2) (E σ)
theorem pe_makeS (M : Mk X.K C f) (F : FnOk X.prog X.w X.K X.mg X.base CX k f fd ps sp) (hr : Room (k + 1) X.A) (hg : Gl X x) (hm : X.mg x = some (.ref C)) (hb : Binds X.K fd ps ds) (hd : Vals dvs ds) (hx : ∀ σ, PassesAt CX X σ (E σ))
    (ha : PA X (e :: es) t) (hdb : (x == ("__debug__" : Str)) = false := by decide) (hst : starEach (e :: es) X.env = (false, eval e X.env) :: starEach es X.env := by rfl) (hpl : (backTo pos (starEach es X.env)).any (·.1) = false := by rfl) :
    PE X (.Call (.Name x p) (e :: es) [] pos) (tMakeS C sp dvs E t) :=
  ⟨fun _ _ σ _ _ I h => wpAny_Call_Name_kw (ld_glob I hg hm (args_go M.kp ha hst hpl I h fun _ _ _ _ J r q => run_makeS M F hr hb hd (hx σ) J r q) hdb)⟩
theorem pe_makeS0 (M : Mk X.K C f) (F : FnOk X.prog X.w X.K X.mg X.base CX k f fd ps sp) (hr : Room (k + 1) X.A) (hg : Gl X x) (hm : X.mg x = some (.ref C)) (hb : Binds X.K fd ps ds) (hd : Vals dvs ds) (hx : ∀ σ, PassesAt CX X σ (E σ))
    (hdb : (x == ("__debug__" : Str)) = false := by decide) : PE X (.Call (.Name x p) [] [] pos) (tMakeS C sp dvs E tNil) :=
  ⟨fun _ _ σ _ _ I h => wpAny_Call_Name_kw (ld_glob I hg hm (PySem.W.callWith_K0 I.kIn M.kp (run_makeS (us := []) M F hr hb hd (hx σ) I .nil h)) hdb)⟩
end

section
variable {K : PySem.W.Frag} {mg : Str → Option Value} {ea : EA} {io io' : List Addr} {Fr Fr' : Addr → Prop} {s s' s2 : S} {σ σ' : L2.St} {H H' : Hp} {w : W} {v : V} {c : Cell} {o : HO} {a p C : Addr} {ws : List W} {vs : List V} {M M' : Addr → Prop} {Wx : WX}
/-- a class of one's own whose instances are plain -/
def ClsN (K : PySem.W.Frag) (mg : Str → Option Value) (nms : List Str) (f : Str) : Prop := ∀ nm ∈ nms, ∃ C, mg nm = some (.ref C) ∧ Cls K C ∧ NoAttr K C f
def fFld (nms : List Str) (f : Str) : W → Option OR
  | .obj nm fs => if nm ∈ nms then (fs.lookup f).map .imm else none
  | _ => none
def tFldU (K : PySem.W.Frag) (f : Str) : V → Hp → VK → Prop := fun x H Q => ∃ a C dx fs v, x = .ref a ∧ H a = some (.ins C dx fs) ∧ Cls K C ∧ NoAttr K C f ∧ fs.lookup f = some v ∧ Q v H
theorem fld_hr {nms : List Str} {f : Str} (hF : ClsN K mg nms f) : ∀ io M H x vx z Q, Rn K mg io M H x vx → fFld nms f x = some z → OQ K mg io M H z Q → tFldU K f vx H Q := by
  intro io M H x vx z Q rx e q
  unfold fFld at e
  split at e
  · split at e
    · rename_i hin
      obtain ⟨w, e1, rfl⟩ := Option.map_eq_some_iff.mp e
      obtain ⟨a, C, dx, vs, rfl, hm, ha, r⟩ := rx.obj
      obtain ⟨C', hm', hc, hn⟩ := hF _ hin
      rw [hm] at hm'
      cases hm'
      obtain ⟨v, h1, h2⟩ := Rkv.lookup (vs := vs) r e1
      exact ⟨a, C, dx, vs, v, rfl, ha, hc, hn, h1, q v h2⟩
    · cases e
  · cases e
theorem nodup_ixA {N : List Addr} (hN : N.Nodup) {i j : Nat} {x : Addr} (a : N[i]? = some x) (b : N[j]? = some x) : i = j := by
  induction N generalizing i j with
  | nil => simp at a
  | cons y N ih =>
    obtain ⟨h1, h2⟩ := List.nodup_cons.mp hN
    cases i with
    | zero =>
      cases j with
      | zero => rfl
      | succ j =>
        simp at a b
        subst a
        exact absurd (List.mem_of_getElem? b) h1
    | succ i =>
      cases j with
      | zero =>
        simp at a b
        subst b
        exact absurd (List.mem_of_getElem? a) h1
      | succ j =>
        simp at a b
        rw [ih h2 a b]
/-- a cell changed -/
theorem Sim.setCell {n : Nat} {o' : HO} {c' : Cell} (x : Sim K mg ea io Fr s σ H) (hn : io[n]? = some a) (h : ∀ {H' : Hp}, Pers io (Ms io Fr s σ) H io (Ms io Fr s σ) H' → Rc K mg io (Ms io Fr s σ) H' c' o') :
    Sim K mg ea io Fr { s with G := s.G.set n c' } σ (upd H a o') ∧ Stp io (Ms io Fr s σ) Fr H io (Ms io Fr s σ) (upd H a o') := by
  have ain : a ∈ io := List.mem_of_getElem? hn
  have aM : Ms io Fr s σ a := .inl ain
  have nF : ¬ FrO Fr s.r σ a := x.g.dj a ain
  have q : Pers io (Ms io Fr s σ) H io (Ms io Fr s σ) (upd H a o') := ⟨fun b u e hb => by rw [upd_ne (fun z => by subst z; exact hb aM)]; exact e, fun b z => .inl z, fun _ _ e => e⟩
  refine ⟨⟨x.len, ⟨by simp [x.g.len], fun m b c h1 h2 => ?_, x.g.nd, x.g.dj, fun b z => ?_⟩, fun i w e => ?_, fun i c e => ?_, x.dist, fun i e k => let ⟨h1, h2⟩ := x.exc i e k; ⟨h1, h2.pers q⟩⟩, q, fun b z => ?_, fun b u e => ?_⟩
  · by_cases hm : n = m
    · subst hm
      rw [hn] at h1
      cases h1
      have hl := get_lt h2
      simp only [List.length_set] at hl
      rw [List.getElem?_set_self hl] at h2
      cases h2
      exact ⟨o', upd_same, h q⟩
    · rw [List.getElem?_set_ne hm] at h2
      obtain ⟨u, e, r⟩ := x.g.cell m b c h1 h2
      have nb : b ≠ a := fun z => by
        subst z
        exact hm (nodup_ixA x.g.nd hn h1)
      exact ⟨u, by rw [upd_ne nb]; exact e, r.pers q⟩
  · obtain ⟨u, e, n⟩ := x.g.fr b z
    exact ⟨u, by rw [upd_ne (fun e => by subst e; exact nF z)]; exact e, n⟩
  · obtain ⟨v, h1, h2⟩ := x.val i w e
    exact ⟨v, h1, h2.pers q⟩
  · obtain ⟨b, u, h1, h2, h3, h4⟩ := x.own i c e
    exact ⟨b, u, h1, by rw [upd_ne (fun z => by subst z; exact nF (.inr ⟨i, c, e, h1⟩))]; exact h2, h3.pers q, h4⟩
  · rw [upd_ne (fun e => by subst e; exact nF (.inl z))]
  · by_cases e' : b = a
    · exact ⟨o', by rw [e', upd_same]⟩
    · exact ⟨u, by rw [upd_ne e']; exact e⟩
def putFW (f : Str) (w : W) : List (Str × W) → List (Str × W)
  | [] => [(f, w)]
  | (g, x) :: r => if g = f then (g, w) :: r else (g, x) :: putFW f w r
theorem Rkv.putF {f : Str} (h : Rw K mg io M H w v) : ∀ {ws : List (Str × W)} {vs : List (Str × V)}, Rkv K mg io M H ws vs → Rkv K mg io M H (putFW f w ws) (L2.putF f v vs)
  | [], vs, r => by rw [r.nil_inv]; exact Rkv.cons h Rkv.nil
  | (g, x) :: ws, vs, r => by
    obtain ⟨u, t, rfl, h1, h2⟩ := r.cons_inv
    rw [show putFW f w ((g, x) :: ws) = (if g = f then (g, w) :: ws else (g, x) :: putFW f w ws) from rfl, show L2.putF f v ((g, u) :: t) = (if g = f then (g, v) :: t else (g, u) :: L2.putF f v t) from rfl]
    by_cases e : g = f
    · rw [if_pos e, if_pos e]; exact Rkv.cons h h2
    · rw [if_neg e, if_neg e]; exact Rkv.cons h1 (Rkv.putF h h2)
def putFld (nms : List Str) (f : Str) (w : W) : RV → Mo Fl
  | .val (.ref n) => fun s => match s.G[n]? with
    | some (.ins nm fs) => if nm ∈ nms ∧ fs.length < 1000 then some (.ok .nx, { s with G := s.G.set n (.ins nm (putFW f w fs)) }) else none
    | _ => none
  | _ => stk
def mSetF (nms : List Str) (f : Str) (mo mv : Mo RV) : Mo Fl := bnd mv fun y => bnd (freeze (settle y)) fun wy => bnd mo fun x => putFld nms f wy x
theorem ref_setF {nms : List Str} {f : Str} (hF : ClsN K mg nms f) {ta tv : TE} {mo mv : Mo RV} (ho : RefE K mg ea Wx ta mo) (hv : RefE K mg ea Wx tv mv) : RefS K mg ea Wx (sFld K ta tv f) (mSetF nms f mo mv) := by
  intro σ H io Fr s S0 r0 s' e D hnx hbk hct hrt hex
  refine one2 hv S0 e (fun x q cls d H' io' px => hex x q cls d σ H' io' px) fun y vy s1 H1 io1 e2 px => ?_
  obtain ⟨S1, T1, R1⟩ := px.settled
  rcases bnd_some e2 with ⟨z, e3, _⟩ | ⟨wy, s3, e3, e4⟩
  · obtain ⟨_, _, _, _, q, _⟩ := freeze_ok S1 R1 e3
    cases q
  · obtain ⟨_, l3, S3, w', q, R3⟩ := freeze_ok S1 R1 e3
    cases q
    have T3 := T1.less l3
    refine one2 ho S3 e4 (fun x q cls d H' io' px => hex x q cls d σ H' io' ⟨px.1, T3.trans px.2.1, px.2.2⟩) fun x vx s4 H4 io4 e5 p4 => ?_
    unfold putFld at e5
    split at e5
    · rename_i n
      obtain ⟨S4, T4, R4⟩ := p4
      split at e5
      · rename_i nm fs hG
        split at e5
        · rename_i hc
          cases R4 with
          | ref hn =>
            rename_i a
            obtain ⟨o, ha, C, dx, us, rfl, hm, rk⟩ := S4.g.cell n a _ hn hG
            obtain ⟨C', hm', hcl, hno⟩ := hF _ hc.1
            rw [hm] at hm'
            cases hm'
            have R5 := R3.pers T4.p
            obtain ⟨S5, T5⟩ := S4.setCell (c' := .ins nm (putFW f wy fs)) (o' := .ins C dx (L2.putF f vy us)) hn fun {H'} p => ⟨C, dx, _, rfl, hm, Rkv.putF (R5.pers p) (Rkv.pers p rk)⟩
            refine ⟨a, C, dx, us, rfl, ha, hcl, hno, by rw [← rk.length]; exact hc.2, ?_⟩
            cases e5
            exact hnx rfl _ _ io4 ⟨S5, (T3.trans T4).trans T5⟩
        · cases e5
      · cases e5
    · cases e5
/-! ### methods -/
def chk (nm mn : Str) (w : W) : Mo Unit := fun s => match derefW s w with
  | some (.obj nm' fs) => if nm' = nm ∧ fs.lookup mn = none then some (.ok (), s) else none
  | _ => none
def mMeth (nm mn : Str) (n : Nat) (m : Fn) (ds : List W) (mo : Mo RV) (ms : Mo (List RV)) : Mo RV := bnd mo fun x => bnd (freeze (settle x)) fun w => bnd (chk nm mn w) fun _ => bnd ms fun xs => bnd (freezeAll xs) fun ws =>
  if (w :: (ws ++ ds)).length = n then callG m (w :: (ws ++ ds)) else stk
/-- default values -/
def Dfl (K : PySem.W.Frag) (mg : Str → Option Value) (ds : List W) (dvs : List V) : Prop := ∀ io M H, Rws K mg io M H ds dvs
theorem Dfl.nil : Dfl K mg [] [] := fun _ _ _ => Rws.nil
theorem ref_meth {n : Nat} {m : Fn} {nm mn : Str} {ta : TE} {t : TA} {mo : Mo RV} {ms : Mo (List RV)} {ds : List W} {dvs : List V} (hC : mg nm = some (.ref C)) (hd : Dfl K mg ds dvs) (ho : RefE K mg ea Wx ta mo) (ha : RefA K mg ea Wx t ms) :
    RefE K mg ea Wx (tMethS C mn (spM K mg n m) dvs (WE Wx) ta t) (mMeth nm mn n m ds mo ms) := by
  intro σ H io Fr s S0 r0 s' e Q hok hex
  refine one2 ho S0 e hex fun x vx s1 H1 io1 e2 px => ?_
  obtain ⟨S1, T1, R1⟩ := px.settled
  rcases bnd_some e2 with ⟨z, e3, _⟩ | ⟨w, s2, e3, e4⟩
  · obtain ⟨_, _, _, _, q, _⟩ := freeze_ok S1 R1 e3
    cases q
  · obtain ⟨_, l2, S2, w', q, R2⟩ := freeze_ok S1 R1 e3
    cases q
    have T2 := T1.less l2
    rcases bnd_some e4 with ⟨z, e5, _⟩ | ⟨u, s3, e5, e6⟩
    · unfold chk at e5
      split at e5
      · split at e5 <;> cases e5
      · cases e5
    · unfold chk at e5
      split at e5
      · rename_i nm' fs hd'
        split at e5
        · rename_i hc
          cases e5
          obtain ⟨rfl, hlk⟩ := hc
          obtain ⟨a, C', dx, us, rfl, hm, hH, rk⟩ := (deref_ok S2 R2 hd').obj
          rw [hC] at hm
          cases hm
          refine ⟨a, dx, us, rfl, hH, Rkv.lookup_none rk hlk, ?_⟩
          refine arg2 ha S2 e6 (fun x q cls d H' io' p => hex x q cls d H' io' ⟨p.1, T2.trans p.2.1, p.2.2⟩) fun xs vs s4 H4 io4 e7 p4 R4 => ?_
          rcases bnd_some e7 with ⟨x, e8, rfl⟩ | ⟨ws, s5, e8, e9⟩
          · obtain ⟨_, _, _, _, q, _⟩ := freezeAll_ok p4.1 R4 e8
            cases q
          · obtain ⟨_, m5, S5, ws', q, r5⟩ := freezeAll_ok p4.1 R4 e8
            cases q
            split at e9
            · rename_i hn
              have T5 := (T2.trans p4.2).less m5
              have R5 := (R2.pers p4.2.p).pers (.less m5)
              have RR := Rws.cons R5 (r5.append (hd _ _ _))
              exact spM_use S5 RR (by rw [← RR.1]; exact hn) e9 (fun x q v H' io' p => hok x q v H' io' (p.trans T5)) fun x q cls d H' io' p => hex x q cls d H' io' ⟨p.1, T5.trans p.2.1, p.2.2⟩
            · cases e9
        · cases e5
      · cases e5
end
section
variable {X : Cx} {ea : EA} {Wx : WX} {e o : Expr} {es : List Expr} {mo mv : Mo RV} {ms : Mo (List RV)} {m : Fn} {k : Nat} {f C : Addr} {fd : FuncData} {ps : List Str} {x nm fl mn : Str} {p pos apos tpos : Pos} {nms : List Str} {ds : List Value} {dw : List W} {dvs : List V}
theorem pee_fld (hF : ClsN X.K X.mg nms fl) (ho : Pee X ea Wx o mo) (hb : attributeBase o fl X.env (eval o X.env) = eval o X.env := by rfl) : Pee X ea Wx (.Attribute o fl pos) (mUn (fFld nms fl) mo) := by
  obtain ⟨t, q, r⟩ := ho.ex
  exact ⟨_, pe_fld q hb, ref_un (r := tFldU X.K fl) (fld_hr hF) r⟩
theorem pes_fld (hF : ClsN X.K X.mg nms fl) (ho : Pee X ea Wx o mo) (hv : Pee X ea Wx e mv) (hs : swapsWith e (some (.Attribute o fl tpos)) pos.line X.env = pure false := by rfl) : Pes X ea Wx (.Assign [.Attribute o fl tpos] e pos) (mSetF nms fl mo mv) := by
  obtain ⟨t, q, r⟩ := ho.ex
  obtain ⟨t', q', r'⟩ := hv.ex
  exact ⟨_, ps_fld q q' hs, ref_setF hF r r'⟩
theorem pee_meth {pl : Sem Bool} (hC : X.mg nm = some (.ref C)) (c : Cls X.K C) (hm : Meth X.K C mn f) (F : FnM X.prog X.w X.K X.mg X.base k f fd ps m) (hr : Room k X.A) (hb : Binds X.K fd ps ds) (hd : Vals dvs ds) (hw : Dfl X.K X.mg dw dvs) (tk : Takes X Wx) (ho : Pee X ea Wx o mo) (ha : Pea X ea Wx (e :: es) ms)
    (hst : starEach (e :: es) X.env = (false, eval e X.env) :: starEach es X.env := by rfl) (hpl : (backTo pos (starEach es X.env)).any (·.1) = false := by rfl)
    (ht : MethRead X o mn apos pos (e :: es) pl := by rfl) :
    Pee X ea Wx (.Call (.Attribute o mn apos) (e :: es) [] pos) (mMeth nm mn ps.length m dw mo ms) := by
  obtain ⟨t, q, r⟩ := ho.ex
  obtain ⟨t', q', r'⟩ := ha.ex
  exact ⟨_, pe_methS q c hm F.ok hr hb hd (fun σ => passAt tk σ) q' hst hpl ht, ref_meth hC hw r r'⟩
theorem pee_meth0 {pl : Sem Bool} (hC : X.mg nm = some (.ref C)) (c : Cls X.K C) (hm : Meth X.K C mn f) (F : FnM X.prog X.w X.K X.mg X.base k f fd ps m) (hr : Room k X.A) (hb : Binds X.K fd ps ds) (hd : Vals dvs ds) (hw : Dfl X.K X.mg dw dvs) (tk : Takes X Wx) (ho : Pee X ea Wx o mo)
    (ht : MethRead X o mn apos pos [] pl := by rfl) :
    Pee X ea Wx (.Call (.Attribute o mn apos) [] [] pos) (mMeth nm mn ps.length m dw mo mNil) := by
  obtain ⟨t, q, r⟩ := ho.ex
  exact ⟨_, pe_methS0 q c hm F.ok hr hb hd (fun σ => passAt tk σ) ht, ref_meth hC hw r ref_nil⟩
end
end Z

set_option Elab.async false
set_option linter.all false
set_option maxRecDepth 100000
/-! Z11: instances made and let go as values; classes' special methods come later. -/
namespace Z
open PySem PySem.Spec PyProof.Rows L2
mutual
def noRef : W → Bool
  | .ref _ => false
  | .tup ws => noRefs ws
  | .lst ws => noRefs ws
  | .frl ws => noRefs ws
  | .dK kvs => noRefK kvs
  | .dT kvs => noRefT kvs
  | .dF kvs => noRefT kvs
  | .obj _ fs => noRefF fs
  | .slt _ ws => noRefs ws
  | .non => true
  | .bl _ => true
  | .int _ => true
  | .str _ => true
  | .byt _ => true
def noRefs : List W → Bool
  | [] => true
  | w :: ws => noRef w && noRefs ws
def noRefK : List (Key × W) → Bool
  | [] => true
  | (_, w) :: ws => noRef w && noRefK ws
def noRefT : List (List Key × W) → Bool
  | [] => true
  | (_, w) :: ws => noRef w && noRefT ws
def noRefF : List (Str × W) → Bool
  | [] => true
  | (_, w) :: ws => noRef w && noRefF ws
end
theorem noRefs_get : ∀ {ws : List W} {i : Nat} {w : W}, noRefs ws = true → ws[i]? = some w → noRef w = true
  | [], i, w, h, e => by simp at e
  | x :: ws, 0, w, h, e => by simp at e; subst e; simp [noRefs] at h; exact h.1
  | x :: ws, i + 1, w, h, e => by simp [noRefs] at h; exact noRefs_get h.2 (by simpa using e)
theorem noRefK_get : ∀ {ws : List (Key × W)} {i : Nat} {w : W}, noRefK ws = true → (ws.map (·.2))[i]? = some w → noRef w = true
  | [], i, w, h, e => by simp at e
  | x :: ws, 0, w, h, e => by simp at e; subst e; simp [noRefK] at h; exact h.1
  | x :: ws, i + 1, w, h, e => by simp [noRefK] at h; exact noRefK_get (i := i) h.2 (by simpa using e)
theorem noRefT_get : ∀ {ws : List (List Key × W)} {i : Nat} {w : W}, noRefT ws = true → (ws.map (·.2))[i]? = some w → noRef w = true
  | [], i, w, h, e => by simp at e
  | x :: ws, 0, w, h, e => by simp at e; subst e; simp [noRefT] at h; exact h.1
  | x :: ws, i + 1, w, h, e => by simp [noRefT] at h; exact noRefT_get (i := i) h.2 (by simpa using e)
theorem noRefF_get : ∀ {ws : List (Str × W)} {i : Nat} {w : W}, noRefF ws = true → (ws.map (·.2))[i]? = some w → noRef w = true
  | [], i, w, h, e => by simp at e
  | x :: ws, 0, w, h, e => by simp at e; subst e; simp [noRefF] at h; exact h.1
  | x :: ws, i + 1, w, h, e => by simp [noRefF] at h; exact noRefF_get (i := i) h.2 (by simpa using e)
def Cell.noRef : Cell → Bool
  | .lst ws => noRefs ws
  | .dK kvs => noRefK kvs
  | .dT kvs => noRefT kvs
  | .ins _ fs => noRefF fs
section
variable {K : PySem.W.Frag} {mg : Str → Option Value} {ea : EA} {io io' : List Addr} {Fr Fr' : Addr → Prop} {s s' s2 : S} {σ σ' : L2.St} {H H' : Hp} {w : W} {v : V} {c : Cell} {o : HO} {a p C : Addr} {ws : List W} {vs : List V} {M M' : Addr → Prop} {Wx : WX}
theorem Rw.noRef (h : Rw K mg io M H w v) (n : Z.noRef w = true) : Rw K mg io' M H w v := by
  induction h with
  | non => exact .non
  | bl b => exact .bl b
  | int i => exact .int i
  | str x => exact .str x
  | byt b => exact .byt b
  | tup h l q ih => exact .tup h l fun i w v a b => ih i w v a b (noRefs_get (by simpa [Z.noRef] using n) a)
  | frl h l q ih => exact .frl h l fun i w v a b => ih i w v a b (noRefs_get (by simpa [Z.noRef] using n) a)
  | lst h k l q ih => exact .lst h k l fun i w v a b => ih i w v a b (noRefs_get (by simpa [Z.noRef] using n) a)
  | dK h k l q ih => exact .dK h k l fun i w v a b => ih i w v a b (noRefK_get (by simpa [Z.noRef] using n) a)
  | dT h k l q ih => exact .dT h k l fun i w v a b => ih i w v a b (noRefT_get (by simpa [Z.noRef] using n) a)
  | dF h k l q ih => exact .dF h k l fun i w v a b => ih i w v a b (noRefT_get (by simpa [Z.noRef] using n) a)
  | obj m h k l q ih => exact .obj m h k l fun i w v a b => ih i w v a b (noRefF_get (by simpa [Z.noRef] using n) a)
  | slt m h k h2 k2 l q ih => exact .slt m h k h2 k2 l fun i w v a b => ih i w v a b (noRefs_get (by simpa [Z.noRef] using n) a)
  | ref h => simp [Z.noRef] at n
theorem Rc.noRef (h : Rc K mg io M H c o) (n : c.noRef = true) : Rc K mg io' M H c o := by
  cases c with
  | lst ws => obtain ⟨vs, e, h⟩ := h; exact ⟨vs, e, h.1, fun i w v a b => (h.2 i w v a b).noRef (noRefs_get n a)⟩
  | dK ws => obtain ⟨vs, e, h⟩ := h; exact ⟨vs, e, h.1, h.2.1, fun i w v a b => (h.2.2 i w v a b).noRef (noRefK_get n a)⟩
  | dT ws => obtain ⟨vs, e, h⟩ := h; exact ⟨vs, e, h.1, h.2.1, fun i w v a b => (h.2.2 i w v a b).noRef (noRefT_get n a)⟩
  | ins nm ws => obtain ⟨C, dx, vs, e, m, h⟩ := h; exact ⟨C, dx, vs, e, m, h.1, h.2.1, fun i w v a b => (h.2.2 i w v a b).noRef (noRefF_get n a)⟩
theorem child {α β : Type} {l1 : List α} {l2 : List β} (l : l1.length = l2.length) {i : Nat} {x : α} (a : l1[i]? = some x) : ∃ y, l2[i]? = some y :=
  ⟨_, List.getElem?_eq_getElem (by rw [← l]; exact get_lt a)⟩
theorem keys_len {κ α β : Type} {l1 : List (κ × α)} {l2 : List (κ × β)} (l : l1.map (·.1) = l2.map (·.1)) : (l1.map (·.2)).length = (l2.map (·.2)).length := by
  have := congrArg List.length l
  simpa using this
/-- old contents do not name new cells -/
theorem Rw.shrink {more : List Addr} {H0 : Hp} {M0 : Addr → Prop} {v0 : V} (h0 : Rw K mg io M0 H0 w v0) : ∀ {v : V}, Rw K mg (io ++ more) M H w v → Rw K mg io M H w v := by
  induction h0 with
  | non => intro v h; cases h; exact .non
  | bl b => intro v h; cases h; exact .bl b
  | int i => intro v h; cases h; exact .int i
  | str x => intro v h; cases h; exact .str x
  | byt b => intro v h; cases h; exact .byt b
  | tup h l q ih =>
    intro v h'
    cases h' with
    | tup k1 k2 k3 =>
      refine .tup k1 k2 fun i w v a b => ?_
      obtain ⟨u, hu⟩ := child l a
      exact ih i w u a hu (k3 i w v a b)
  | frl h l q ih =>
    intro v h'
    cases h' with
    | frl k1 k2 k3 =>
      refine .frl k1 k2 fun i w v a b => ?_
      obtain ⟨u, hu⟩ := child l a
      exact ih i w u a hu (k3 i w v a b)
  | lst h n l q ih =>
    intro v h'
    cases h' with
    | lst k0 k1 k2 k3 =>
      refine .lst k0 k1 k2 fun i w v a b => ?_
      obtain ⟨u, hu⟩ := child l a
      exact ih i w u a hu (k3 i w v a b)
  | dK h n l q ih =>
    intro v h'
    cases h' with
    | dK k0 k1 k2 k3 =>
      refine .dK k0 k1 k2 fun i w v a b => ?_
      obtain ⟨u, hu⟩ := child (keys_len l) a
      exact ih i w u a hu (k3 i w v a b)
  | dT h n l q ih =>
    intro v h'
    cases h' with
    | dT k0 k1 k2 k3 =>
      refine .dT k0 k1 k2 fun i w v a b => ?_
      obtain ⟨u, hu⟩ := child (keys_len l) a
      exact ih i w u a hu (k3 i w v a b)
  | dF h n l q ih =>
    intro v h'
    cases h' with
    | dF k0 k1 k2 k3 =>
      refine .dF k0 k1 k2 fun i w v a b => ?_
      obtain ⟨u, hu⟩ := child (keys_len l) a
      exact ih i w u a hu (k3 i w v a b)
  | obj m h n l q ih =>
    intro v h'
    cases h' with
    | obj k00 k0 k1 k2 k3 =>
      refine .obj k00 k0 k1 k2 fun i w v a b => ?_
      obtain ⟨u, hu⟩ := child (keys_len l) a
      exact ih i w u a hu (k3 i w v a b)
  | slt m h n h2 n2 l q ih =>
    intro v h'
    cases h' with
    | slt k0 k1 k2 k3 k4 k5 k6 =>
      refine .slt k0 k1 k2 k3 k4 k5 fun i w v a b => ?_
      obtain ⟨u, hu⟩ := child l a
      exact ih i w u a hu (k6 i w v a b)
  | ref h =>
    intro v h'
    cases h' with
    | ref k =>
      rw [List.getElem?_append_left (get_lt h)] at k
      exact .ref k
theorem Rws.shrink {more : List Addr} {H0 : Hp} {M0 : Addr → Prop} {vs0 : List V} (h0 : Rws K mg io M0 H0 ws vs0) (h : Rws K mg (io ++ more) M H ws vs) : Rws K mg io M H ws vs := ⟨h.1, fun i w v a b => by
  obtain ⟨u, _, r⟩ := h0.get a
  exact r.shrink (h.2 i w v a b)⟩
theorem Rc.shrink {more : List Addr} {H0 : Hp} {M0 : Addr → Prop} {o0 : HO} (h0 : Rc K mg io M0 H0 c o0) (h : Rc K mg (io ++ more) M H c o) : Rc K mg io M H c o := by
  cases c with
  | lst ws => obtain ⟨vs, e, h⟩ := h; obtain ⟨vs0, _, h0⟩ := h0; exact ⟨vs, e, h0.shrink h⟩
  | dK ws => obtain ⟨vs, e, h⟩ := h; obtain ⟨vs0, _, h0⟩ := h0; exact ⟨vs, e, h.1, h0.2.shrink h.2⟩
  | dT ws => obtain ⟨vs, e, h⟩ := h; obtain ⟨vs0, _, h0⟩ := h0; exact ⟨vs, e, h.1, h0.2.shrink h.2⟩
  | ins nm ws => obtain ⟨C, dx, vs, e, m, h⟩ := h; obtain ⟨_, _, _, _, _, h0⟩ := h0; exact ⟨C, dx, vs, e, m, h.1, h0.2.shrink h.2⟩
/-- the last cell is let go -/
theorem GSim.pop {G : List Cell} (g0 : GSim K mg io Fr G H) (g : GSim K mg (io ++ [a]) Fr' (G ++ [c]) H') (h : ∀ b, Fr b → Fr' b) (m : ∀ b, Mu io Fr' b → Mu io Fr b) : GSim K mg io Fr' G H' where
  len := g0.len
  cell := fun n b c' h1 h2 => by
    obtain ⟨o, e, r⟩ := g.cell n b c' (by rw [List.getElem?_append_left (get_lt h1)]; exact h1) (by rw [List.getElem?_append_left (get_lt h2)]; exact h2)
    obtain ⟨o0, _, r0⟩ := g0.cell n b c' h1 h2
    exact ⟨o, e, r0.shrink (r.pers (.less fun x z => z.imp (fun z => List.mem_append_left _ z) id))⟩
  nd := g0.nd
  dj := fun x hx => g.dj x (List.mem_append_left _ hx)
  fr := g.fr
open Classical in
noncomputable def makeG (nm : Str) (m : Fn) (ws : List W) : Mo RV := fun s => match m (.ref s.G.length :: ws) (s.G ++ [.ins nm []]) with
  | some (.ok (.val .non), G') => match G'.drop s.G.length with
    | [c] => if G'.take s.G.length = s.G ∧ c.noRef = true then some (.ok (.own c), s) else none
    | _ => none
  | some (.error x, G') => if G'.take s.G.length = s.G ∧ noRefF x.fs = true ∧ G'.length = s.G.length + 1 then some (.error x, s) else none
  | _ => none
theorem Sim.pushIns {x dx : Addr} {nm : Str} (S0 : Sim K mg ea io Fr s σ H) (hC : mg nm = some (.ref C)) (hx : H x = none) (hdx : H dx = none) (ne : dx ≠ x) :
    GSim K mg (io ++ [x]) (FrO Fr s.r σ) (s.G ++ [.ins nm []]) (upd (upd H dx (.own x)) x (.ins C dx [])) ∧ Stp io (Ms io Fr s σ) (FrO Fr s.r σ) H (io ++ [x]) (Mu (io ++ [x]) (FrO Fr s.r σ)) (upd (upd H dx (.own x)) x (.ins C dx [])) := by
  have kp : ∀ b u, H b = some u → upd (upd H dx (.own x)) x (.ins C dx []) b = some u := fun b u e => by
    rw [upd_ne (ne_of_none e hx), upd_ne (ne_of_none e hdx)]; exact e
  have same : ∀ b, Ms io Fr s σ b → upd (upd H dx (.own x)) x (.ins C dx []) b = H b := fun b z => by
    obtain ⟨u, e⟩ := S0.trk z
    rw [kp b u e, e]
  have nM : ¬ Ms io Fr s σ x := fun z => by
    obtain ⟨u, e⟩ := S0.trk z
    rw [hx] at e; cases e
  have q : Pers io (Ms io Fr s σ) H (io ++ [x]) (Mu (io ++ [x]) (FrO Fr s.r σ)) (upd (upd H dx (.own x)) x (.ins C dx [])) := ⟨fun b u e _ => kp b u e, fun b z => by
    rcases z with z | z
    · rcases List.mem_append.mp z with z | z
      · exact .inl (.inl z)
      · rw [List.mem_singleton] at z; exact .inr (by rw [z]; exact hx)
    · exact .inl (.inr z), fun n b e => by rw [List.getElem?_append_left (get_lt e)]; exact e⟩
  refine ⟨⟨by simp [S0.g.len], fun n b c h1 h2 => ?_, ?_, fun b hb z => ?_, fun b z => ?_⟩, q, fun b z => same b (.inr z), fun b u e => ⟨u, kp b u e⟩⟩
  · rcases Nat.lt_or_ge n io.length with hl | hl
    · rw [List.getElem?_append_left hl] at h1
      rw [List.getElem?_append_left (by rw [← S0.g.len]; exact hl)] at h2
      obtain ⟨u, e, r⟩ := S0.g.cell n b c h1 h2
      exact ⟨u, kp b u e, r.pers q⟩
    · rw [List.getElem?_append_right hl] at h1
      rw [List.getElem?_append_right (by rw [← S0.g.len]; exact hl), ← S0.g.len] at h2
      have e0 : n - io.length = 0 := by
        have := get_lt h1
        simpa using this
      rw [e0] at h1 h2
      simp at h1 h2
      subst h1; subst h2
      exact ⟨_, upd_same, C, dx, [], rfl, hC, Rkv.nil⟩
  · rw [List.nodup_append]
    refine ⟨S0.g.nd, by simp, fun b hb c hc => ?_⟩
    rw [List.mem_singleton] at hc
    subst hc
    exact fun z => nM (.inl (z ▸ hb))
  · rcases List.mem_append.mp hb with h | h
    · exact S0.g.dj b h z
    · rw [List.mem_singleton] at h
      subst h
      exact nM (.inr z)
  · obtain ⟨u, e, n⟩ := S0.g.fr b z
    exact ⟨u, kp b u e, n⟩
/-- an instance made: what its __init__ is asked -/
theorem make_use {n : Nat} {m : Fn} {nm : Str} {x dx : Addr} (S0 : Sim K mg ea io Fr s σ H) (R : Rws K mg io (Ms io Fr s σ) H ws vs) (hn : vs.length + 1 = n) (hC : mg nm = some (.ref C)) (hx : H x = none) (hdx : H dx = none) (ne : dx ≠ x)
    {r : Except Ex RV} (e : makeG nm m ws s = some (r, s')) {Q : VK}
    (hok : ∀ x, r = .ok x → ∀ v H' io', PostE K mg ea io Fr s σ H s' io' H' x v → Q v H') (hex : ∀ x, r = .error x → ∀ cls d H' io', PostX K mg ea io Fr s σ H s' σ io' H' x cls d → Wx cls d σ H') :
    spM K mg n m (.ref x :: vs) (upd (upd H dx (.own x)) x (.ins C dx [])) (fun v H2 => v = .non ∧ Q (.ref x) H2) (WE Wx σ) := by
  obtain ⟨g1, T1⟩ := S0.pushIns hC hx hdx ne
  have R1 : Rws K mg (io ++ [x]) (Mu (io ++ [x]) (FrO Fr s.r σ)) (upd (upd H dx (.own x)) x (.ins C dx [])) (.ref s.G.length :: ws) (.ref x :: vs) :=
    Rws.cons (.ref (by rw [← S0.g.len, List.getElem?_append_right (Nat.le_refl _)]; simp)) (R.pers T1.p)
  have nown : ∀ a (i : Nat) c, s.r[i]? = some (.own c) → σ[i]? = some (some (V.ref a)) → ¬ Fr a := fun a i c h1 h2 => by
    obtain ⟨b, o, q1, _, _, q4⟩ := S0.own i c h1
    rw [h2] at q1; cases q1
    exact q4
  have nFx : ¬ FrO Fr s.r σ x := g1.dj x (by simp)
  unfold makeG at e
  -- the last cell
  have last : ∀ {G' : List Cell} {io' : List Addr} {H' : Hp}, GSim K mg io' (FrO Fr s.r σ) G' H' → Stp (io ++ [x]) (Mu (io ++ [x]) (FrO Fr s.r σ)) (FrO Fr s.r σ) (upd (upd H dx (.own x)) x (.ins C dx [])) io' (Mu io' (FrO Fr s.r σ)) H' →
      G'.length = s.G.length + 1 → G'.take s.G.length = s.G → ∃ c, G' = s.G ++ [c] ∧ io' = io ++ [x] := fun {G' io' H'} g T hl ht => by
    have hl2 : io'.length = io.length + 1 := by rw [g.len, hl, S0.g.len]
    refine ⟨G'[s.G.length]'(by omega), ?_, ?_⟩
    · conv => lhs; rw [← List.take_append_drop s.G.length G', ht]
      congr 1
      rw [drop_get (by omega), List.drop_eq_nil_of_le (by omega)]
    · apply List.ext_getElem?
      intro i
      rcases Nat.lt_or_ge i (io ++ [x]).length with q | q
      · rw [List.getElem?_eq_getElem q]
        exact T.p.ext i _ (List.getElem?_eq_getElem q)
      · rw [List.getElem?_eq_none (by simp only [List.length_append, List.length_singleton] at q; omega), List.getElem?_eq_none q]
  split at e
  · rename_i G' k
    split at e
    · rename_i c hd
      split at e
      · rename_i hc
        cases e
        refine ⟨by simpa using hn, io ++ [x], FrO Fr s.r σ, _, _, _, G', g1, R1, k, fun f q v H' io' p => ?_, (fun _ q => by cases q)⟩
        cases q
        obtain ⟨g, T, r⟩ := p
        cases r
        refine ⟨rfl, ?_⟩
        have hl : G'.length = s.G.length + 1 := by
          have := congrArg List.length hd
          simp only [List.length_drop, List.length_singleton] at this
          omega
        obtain ⟨c', hG, rfl⟩ := last g T hl hc.1
        have hcc : c' = c := by
          rw [hG, List.drop_left] at hd
          simpa using hd
        subst hcc
        subst hG
        obtain ⟨o, ho, rc⟩ := g.cell io.length x c' (by rw [List.getElem?_append_right (Nat.le_refl _)]; simp) (by rw [S0.g.len, List.getElem?_append_right (Nat.le_refl _)]; simp)
        have le : ∀ b, Mu io (FrO (pls Fr x) s.r σ) b → Mu (io ++ [x]) (FrO Fr s.r σ) b := fun b z => by
          rcases z with z | z
          · exact .inl (List.mem_append_left _ z)
          · rcases (fro_pls b).1 z with z | z
            · exact .inr z
            · exact .inl (by rw [z]; simp)
        have ge : ∀ b, Mu (io ++ [x]) (FrO Fr s.r σ) b → Mu io (pls (FrO Fr s.r σ) x) b := fun b z => by
          rcases z with z | z
          · rcases List.mem_append.mp z with z | z
            · exact .inl z
            · rw [List.mem_singleton] at z; exact .inr (.inr z)
          · exact .inr (.inl z)
        have gp : GSim K mg io (FrO (pls Fr x) s.r σ) s.G H' := by
          refine ⟨S0.g.len, fun n b c2 h1 h2 => ?_, S0.g.nd, fun b hb z => ?_, fun b z => ?_⟩
          · obtain ⟨u, e1, r1⟩ := g.cell n b c2 (by rw [List.getElem?_append_left (get_lt h1)]; exact h1) (by rw [List.getElem?_append_left (get_lt h2)]; exact h2)
            obtain ⟨u0, _, r0⟩ := S0.g.cell n b c2 h1 h2
            exact ⟨u, e1, r0.shrink (r1.pers (.less le))⟩
          · rcases (fro_pls b).1 z with z | z
            · exact S0.g.dj b hb z
            · subst z
              have := g.nd
              rw [List.nodup_append] at this
              exact this.2.2 b hb b (by simp) rfl
          · rcases (fro_pls b).1 z with z | z
            · exact g.fr b z
            · exact ⟨o, by rw [z]; exact ho, rc.nt⟩
        have TT := T1.trans T
        have T2 : Stp io (Ms io Fr s σ) (FrO Fr s.r σ) H io (Mu io (FrO (pls Fr x) s.r σ)) H' := ⟨⟨TT.p.keep, fun b z => TT.p.new b (le b z), fun _ _ e => e⟩, TT.fr, TT.trk⟩
        refine hok _ rfl _ H' io ⟨x, o, rfl, ho, nFx, S0.call gp T2 fun b i c2 h1 h2 z => ?_, T2.frless fun b z => .inl z, (rc.pers (.less le)).noRef hc.2⟩
        rcases z with z | z
        · exact nown b i c2 h1 h2 z
        · subst z
          exact nFx (.inr ⟨i, c2, h1, h2⟩)
      · cases e
    · cases e
  · rename_i xx G' k
    split at e
    · rename_i hc
      cases e
      refine ⟨by simpa using hn, io ++ [x], FrO Fr s.r σ, _, _, _, G', g1, R1, k, (fun _ q => by cases q), fun x' q cls d H' io' p => ?_⟩
      cases q
      obtain ⟨g, T, xr⟩ := p
      obtain ⟨c', hG, rfl⟩ := last g T hc.2.2 hc.1
      subst hG
      have le : ∀ b, Mu io (FrO Fr s.r σ) b → Mu (io ++ [x]) (FrO Fr s.r σ) b := fun b z => z.imp (fun z => List.mem_append_left _ z) id
      have gp : GSim K mg io (FrO Fr s.r σ) s.G H' := S0.g.pop g (fun _ z => z) fun b z => z
      have TT := T1.trans T
      have T2 : Stp io (Ms io Fr s σ) (FrO Fr s.r σ) H io (Mu io (FrO Fr s.r σ)) H' := ⟨⟨TT.p.keep, fun b z => TT.p.new b (le b z), fun _ _ e => e⟩, TT.fr, TT.trk⟩
      refine hex _ rfl cls d H' io ⟨S0.call gp T2 nown, T2.frless fun b z => .inl z, ?_⟩
      obtain ⟨C2, y1, y2, y3⟩ := xr
      refine ⟨C2, y1, y2, y3.imp id ?_⟩
      rintro ⟨dd, us, z1, z2, z3, z4⟩
      exact ⟨dd, us, z1, z2, fun z => z3 (le _ z), z4.1, z4.2.1, fun i w v a b => ((z4.2.2 i w v a b).pers (.less le)).noRef (noRefF_get hc.2.1 a)⟩
    · cases e
  · cases e
noncomputable def mMake (nm : Str) (n : Nat) (m : Fn) (ds : List W) (ms : Mo (List RV)) : Mo RV := bnd ms fun xs => bnd (freezeAll xs) fun ws => if (ws ++ ds).length + 1 = n then makeG nm m (ws ++ ds) else stk
theorem ref_make {n : Nat} {m : Fn} {nm : Str} {t : TA} {ms : Mo (List RV)} {ds : List W} {dvs : List V} (hC : mg nm = some (.ref C)) (hd : Dfl K mg ds dvs) (ha : RefA K mg ea Wx t ms) :
    RefE K mg ea Wx (tMakeS C (spM K mg n m) dvs (WE Wx) t) (mMake nm n m ds ms) := by
  intro σ H io Fr s S0 r0 s' e Q hok hex
  refine arg2 ha S0 e hex fun xs vs s1 H1 io1 e2 px R1 => ?_
  rcases bnd_some e2 with ⟨x, e3, rfl⟩ | ⟨ws, s2, e3, e4⟩
  · obtain ⟨_, _, _, _, q, _⟩ := freezeAll_ok px.1 R1 e3
    cases q
  · obtain ⟨_, m2, S2, ws', q, r2⟩ := freezeAll_ok px.1 R1 e3
    cases q
    split at e4
    · rename_i hn
      intro x dx hx hdx ne
      have T2 := px.2.less m2
      have RR := r2.append (hd io1 _ H1)
      exact make_use S2 RR (by rw [← RR.1]; exact hn) hC hx hdx ne e4 (fun x q v H' io' p => hok x q v H' io' (p.trans T2)) fun x q cls d H' io' p => hex x q cls d H' io' ⟨p.1, T2.trans p.2.1, p.2.2⟩
    · cases e4
end
section
variable {X : Cx} {ea : EA} {Wx : WX} {e o : Expr} {es : List Expr} {mo mv : Mo RV} {ms : Mo (List RV)} {m : Fn} {k : Nat} {f C : Addr} {fd : FuncData} {ps : List Str} {x : Str} {p pos apos tpos : Pos} {ds : List Value} {dw : List W} {dvs : List V}
theorem pee_make (hC : X.mg x = some (.ref C)) (M : Mk X.K C f) (F : FnM X.prog X.w X.K X.mg X.base k f fd ps m) (hr : Room (k + 1) X.A) (hb : Binds X.K fd ps ds) (hd : Vals dvs ds) (hw : Dfl X.K X.mg dw dvs) (tk : Takes X Wx) (ha : Pea X ea Wx (e :: es) ms) (hg : Gl X x := by rfl)
    (hdb : (x == ("__debug__" : Str)) = false := by decide) (he : starEach (e :: es) X.env = (false, eval e X.env) :: starEach es X.env := by rfl) (hpl : (backTo pos (starEach es X.env)).any (·.1) = false := by rfl) :
    Pee X ea Wx (.Call (.Name x p) (e :: es) [] pos) (mMake x ps.length m dw ms) := by
  obtain ⟨t, q, r⟩ := ha.ex
  exact ⟨_, pe_makeS M F.ok hr hg hC hb hd (fun σ => passAt tk σ) q hdb he hpl, ref_make hC hw r⟩
theorem pee_make0 (hC : X.mg x = some (.ref C)) (M : Mk X.K C f) (F : FnM X.prog X.w X.K X.mg X.base k f fd ps m) (hr : Room (k + 1) X.A) (hb : Binds X.K fd ps ds) (hd : Vals dvs ds) (hw : Dfl X.K X.mg dw dvs) (tk : Takes X Wx) (hg : Gl X x := by rfl)
    (hdb : (x == ("__debug__" : Str)) = false := by decide) : Pee X ea Wx (.Call (.Name x p) [] [] pos) (mMake x ps.length m dw mNil) :=
  ⟨_, pe_makeS0 M F.ok hr hg hC hb hd (fun σ => passAt tk σ) hdb, ref_make hC hw ref_nil⟩
end
end Z

set_option Elab.async false
set_option linter.all false
set_option maxRecDepth 100000
/-! Z12: raise. -/
namespace Z
open PySem PySem.Spec PyProof.Rows L2
section
variable {K : PySem.W.Frag} {mg : Str → Option Value} {ea : EA} {io io' : List Addr} {Fr Fr' : Addr → Prop} {s s' s2 : S} {σ σ' : L2.St} {H H' : Hp} {w : W} {v : V} {c : Cell} {o : HO} {a p C : Addr} {ws : List W} {vs : List V} {M M' : Addr → Prop} {Wx : WX}
/-- the promise of an exception's __init__(self, f, ..): each given attribute is stored -/
def spXI (K : PySem.W.Frag) (fs : List Str) : Sp := fun vs H Q _ => ∃ (a C : Addr) (us : List V), vs = .ref a :: us ∧ us.length = fs.length ∧ H a = some (exo a C none) ∧ OexC K C ∧ (∀ f ∈ fs, PySem.W.findIn K (.ref C) f = some none) ∧
  ∀ dx H', H dx = none → dx ≠ a → H' a = some (exo a C (some dx)) → H' dx = some (exd dx (fs.zip us).reverse) → (∀ b, b ≠ a → b ≠ dx → H' b = H b) → Q .non H'
theorem upd3 {o1 o2 o3 : HO} {dx a : Addr} (ne : dx ≠ a) : upd (upd (upd H dx o1) a o2) dx o3 a = some o2 ∧ upd (upd (upd H dx o1) a o2) dx o3 dx = some o3 ∧ ∀ b, b ≠ a → b ≠ dx → upd (upd (upd H dx o1) a o2) dx o3 b = H b :=
  ⟨by rw [upd_ne (Ne.symm ne), upd_same], upd_same, fun b h1 h2 => by rw [upd_ne h2, upd_ne h1, upd_ne h2]⟩
section
variable {P : Program} {w : World} {base : Heap} {x qual : Str} {st : Stmt} {f : Addr} {fd : FuncData} {N : List Str} {f1 f2 f3 n1 n2 n3 : Str}
theorem xi1 (F : Fun K x qual st f fd) (S : FnScope ["self", n1] ["self", n1] (defScope st))
    (hb : ∀ (cdv : Value) (A : Around) (outer : List Env) (s : Shared) (H : Hp) (E : XK), Room 0 (A.deeper (envOfC qual (defScope st) s.heap.objs.size f cdv)) →
      PSs (cxOf (L2.CX P w) P w K mg base ["self", n1] qual (defScope st) f cdv A outer s H E) (defBody st) (tOst K f1 (tVar 0) (tVar 1))) : FnOk P w K mg base (L2.CX P w) 1 f fd ["self", n1] (spXI K [f1]) := by
  refine F.okX S (fun vs H Q E h => ?_) fun cdv A outer s H vs Q E hr h => ?_
  · obtain ⟨a, C, us, rfl, hl, _⟩ := h
    simpa using hl
  · obtain ⟨a, C, us, rfl, hl, ha, T, hf, q⟩ := h
    obtain ⟨u, rfl⟩ : ∃ u, us = [u] := by
      match us, hl with
      | [u], _ => exact ⟨u, rfl⟩
    refine ⟨_, hb cdv A outer s H E hr, _, rfl, _, rfl, a, C, rfl, T, hf _ (by simp), .inl ⟨ha, fun dx hd ne => ?_⟩⟩
    exact q dx _ hd ne (by rw [upd_same]) (by rw [upd_ne ne, upd_same]; rfl) fun b h1 h2 => by rw [upd_ne h1, upd_ne h2]
theorem xi2 (F : Fun K x qual st f fd) (S : FnScope ["self", n1, n2] ["self", n1, n2] (defScope st))
    (hb : ∀ (cdv : Value) (A : Around) (outer : List Env) (s : Shared) (H : Hp) (E : XK), Room 0 (A.deeper (envOfC qual (defScope st) s.heap.objs.size f cdv)) →
      PSs (cxOf (L2.CX P w) P w K mg base ["self", n1, n2] qual (defScope st) f cdv A outer s H E) (defBody st) (tSeq (tOst K f1 (tVar 0) (tVar 1)) (tOst K f2 (tVar 0) (tVar 2)))) : FnOk P w K mg base (L2.CX P w) 1 f fd ["self", n1, n2] (spXI K [f1, f2]) := by
  refine F.okX S (fun vs H Q E h => ?_) fun cdv A outer s H vs Q E hr h => ?_
  · obtain ⟨a, C, us, rfl, hl, _⟩ := h
    simpa using hl
  · obtain ⟨a, C, us, rfl, hl, ha, T, hf, q⟩ := h
    obtain ⟨u, u2, rfl⟩ : ∃ u u2, us = [u, u2] := by
      match us, hl with
      | [u, u2], _ => exact ⟨u, u2, rfl⟩
    refine ⟨_, hb cdv A outer s H E hr, _, rfl, _, rfl, a, C, rfl, T, hf _ (by simp), .inl ⟨ha, fun dx hd ne => ?_⟩⟩
    refine ⟨_, rfl, _, rfl, a, C, rfl, T, hf _ (by simp), .inr ⟨dx, _, by rw [upd_same], by rw [upd_ne ne, upd_same], by simp, ?_⟩⟩
    obtain ⟨e1, e2, e3⟩ := upd3 (H := H) (o1 := exd dx [(f1, u)]) (o2 := exo a C (some dx)) (o3 := exd dx [(f2, u2), (f1, u)]) ne
    exact q dx _ hd ne e1 e2 e3
theorem xi3 (F : Fun K x qual st f fd) (S : FnScope ["self", n1, n2, n3] ["self", n1, n2, n3] (defScope st))
    (hb : ∀ (cdv : Value) (A : Around) (outer : List Env) (s : Shared) (H : Hp) (E : XK), Room 0 (A.deeper (envOfC qual (defScope st) s.heap.objs.size f cdv)) →
      PSs (cxOf (L2.CX P w) P w K mg base ["self", n1, n2, n3] qual (defScope st) f cdv A outer s H E) (defBody st) (tSeq (tOst K f1 (tVar 0) (tVar 1)) (tSeq (tOst K f2 (tVar 0) (tVar 2)) (tOst K f3 (tVar 0) (tVar 3))))) : FnOk P w K mg base (L2.CX P w) 1 f fd ["self", n1, n2, n3] (spXI K [f1, f2, f3]) := by
  refine F.okX S (fun vs H Q E h => ?_) fun cdv A outer s H vs Q E hr h => ?_
  · obtain ⟨a, C, us, rfl, hl, _⟩ := h
    simpa using hl
  · obtain ⟨a, C, us, rfl, hl, ha, T, hf, q⟩ := h
    obtain ⟨u, u2, u3, rfl⟩ : ∃ u u2 u3, us = [u, u2, u3] := by
      match us, hl with
      | [u, u2, u3], _ => exact ⟨u, u2, u3, rfl⟩
    refine ⟨_, hb cdv A outer s H E hr, _, rfl, _, rfl, a, C, rfl, T, hf _ (by simp), .inl ⟨ha, fun dx hd ne => ?_⟩⟩
    refine ⟨_, rfl, _, rfl, a, C, rfl, T, hf _ (by simp), .inr ⟨dx, _, by rw [upd_same], by rw [upd_ne ne, upd_same], by simp, ?_⟩⟩
    refine ⟨_, rfl, _, rfl, a, C, rfl, T, hf _ (by simp), .inr ⟨dx, _, by rw [upd_ne (Ne.symm ne), upd_same], by rw [upd_same], by simp, ?_⟩⟩
    rw [upd_upd]
    obtain ⟨e1, e2, e3⟩ := upd3 (H := H) (o1 := exd dx [(f1, u)]) (o2 := exo a C (some dx)) (o3 := exd dx [(f3, u3), (f2, u2), (f1, u)]) ne
    exact q dx _ hd ne e1 e2 e3
end
def mRaise (nm : Str) (fs : List Str) (ms : Mo (List RV)) : Mo Fl := bnd ms fun xs => bnd (freezeAll xs) fun ws => if ws.length = fs.length ∧ ws.length ≤ 1000 then raiseM ⟨nm, (fs.zip ws).reverse⟩ else stk
def mRaise0 (nm : Str) : Mo Fl := raiseM ⟨nm, []⟩
theorem Rkv.append {κ : Type} {ws ws' : List (κ × W)} {vs vs' : List (κ × V)} (h : Rkv K mg io M H ws vs) (t : Rkv K mg io M H ws' vs') : Rkv K mg io M H (ws ++ ws') (vs ++ vs') :=
  ⟨by simp [h.1, t.1], by simpa using h.2.append t.2⟩
theorem Rkv.zipRev : ∀ {fs : List Str} {ws : List W} {vs : List V}, ws.length = fs.length → Rws K mg io M H ws vs → Rkv K mg io M H (fs.zip ws).reverse (fs.zip vs).reverse
  | [], ws, vs, hl, r => by simp; exact Rkv.nil
  | f :: fs, [], vs, hl, r => by simp at hl
  | f :: fs, w :: ws, vs, hl, r => by
    obtain ⟨v, t, rfl, h1, h2⟩ := r.cons_inv
    simp only [List.zip_cons_cons, List.reverse_cons]
    exact (Rkv.zipRev (by simpa using hl) h2).append (Rkv.cons h1 Rkv.nil)
theorem del_upd {a : Addr} {o : HO} (hn : H a = none) : del (upd H a o) a = H := by
  funext b
  by_cases h : b = a
  · subst h; rw [del_same, hn]
  · rw [del_ne h, upd_ne h]
theorem ref_raise {nm : Str} {fs : List Str} {ta : TA} {ms : Mo (List RV)} (hC : mg nm = some (.ref C)) (T : OexC K C) (hf : ∀ f ∈ fs, PySem.W.findIn K (.ref C) f = some none) (ha : RefA K mg ea Wx ta ms) (nz : fs ≠ []) :
    RefS K mg ea Wx (fun _ σ H => tMkO C (spXI K fs) [] ta σ H fun cls d H' => Wx cls d σ H') (mRaise nm fs ms) := by
  intro σ H io Fr s S0 r0 s' e D hnx hbk hct hrt hex
  refine arg2 ha S0 e (fun x q cls d H' io' px => hex x q cls d σ H' io' px) fun xs vs s1 H1 io1 e2 px R1 => ?_
  rcases bnd_some e2 with ⟨x, e3, rfl⟩ | ⟨ws, s2, e3, e4⟩
  · obtain ⟨_, _, _, _, q, _⟩ := freezeAll_ok px.1 R1 e3
    cases q
  · obtain ⟨_, m2, S2, ws', q, r2⟩ := freezeAll_ok px.1 R1 e3
    cases q
    split at e4
    · rename_i hn
      cases e4
      refine ⟨by rw [← r2.1]; exact hn.2, fun a ha => ⟨a, C, vs, by simp, by rw [← r2.1]; exact hn.1, upd_same, T, hf, fun dx H' hd ne e1 e2 e3 => ⟨rfl, dx, _, e1, e2, ?_, ?_⟩⟩⟩
      · rw [upd_ne ne] at hd; exact hd
      · have hd1 : H1 dx = none := by rw [upd_ne ne] at hd; exact hd
        have eH : upd (del H' a) dx (.xd (fs.zip vs).reverse) = upd H1 dx (.xd (fs.zip vs).reverse) := by
          funext b
          by_cases hb : b = dx
          · subst hb; rw [upd_same, upd_same]
          · rw [upd_ne hb, upd_ne hb]
            by_cases hba : b = a
            · subst hba; rw [del_same, ha]
            · rw [del_ne hba, e3 b hba hb, upd_ne hba]
        rw [eH]
        obtain ⟨S3, T3⟩ := S2.laid (o := .xd (fs.zip vs).reverse) hd1
        refine hex _ rfl _ _ σ _ io1 ⟨S3, (px.2.less m2).trans T3, C, hC, rfl, .inr ⟨dx, _, rfl, upd_same, fun z => ?_, Rkv.zipRev hn.1 (r2.pers T3.p)⟩⟩
        obtain ⟨u, e⟩ := S2.trk z
        rw [hd1] at e; cases e
    · cases e4
theorem ref_raise0 {nm : Str} (hC : mg nm = some (.ref C)) : RefS K mg ea Wx (fun _ σ H => (fun (_ : L2.St) (H : Hp) (Q : XK) => Q (.ref C) none H) σ H fun cls d H' => Wx cls d σ H') (mRaise0 nm) := by
  intro σ H io Fr s S0 r0 s' e D hnx hbk hct hrt hex
  cases e
  exact hex _ rfl _ _ σ H io ⟨S0, .refl, C, hC, rfl, .inl ⟨rfl, rfl⟩⟩
end
section
variable {X : Cx} {ea : EA} {Wx : WX} {e o : Expr} {es : List Expr} {ms : Mo (List RV)} {k : Nat} {f C : Addr} {fd : FuncData} {ps fs : List Str} {x : Str} {p pos pos' : Pos}
theorem pes_raise (hC : X.mg x = some (.ref C)) (T : OexC X.K C) (hf : ∀ f ∈ fs, PySem.W.findIn X.K (.ref C) f = some none) (nz : fs ≠ []) (iC : PySem.W.findIn X.K (.ref C) "__init__" = some (some (.ref f))) (tI : PySem.W.typeIn X.K (.ref f) = some (.type "function"))
    (F1 : FnOk X.prog X.w X.K X.mg X.base (L2.CX X.prog X.w) k f fd ps (spXI X.K fs)) (hr : Room (k + 1) X.A) (hb : Binds X.K fd ps []) (tk : Takes X Wx) (ha : Pea X ea Wx (e :: es) ms) (hc : X.calm = true := by rfl) (hg : Gl X x := by rfl)
    (hdb : (x == ("__debug__" : Str)) = false := by decide) (he : starEach (e :: es) X.env = (false, eval e X.env) :: starEach es X.env := by rfl) (hpl : (backTo pos (starEach es X.env)).any (·.1) = false := by rfl) :
    Pes X ea Wx (.Raise (some (.Call (.Name x p) (e :: es) [] pos)) none pos') (mRaise x fs ms) := by
  obtain ⟨t, q, r⟩ := ha.ex
  exact ⟨_, ps_raise hc tk (pmk_oex T iC tI F1 hr hb .nil passL hg hC q hdb he hpl), ref_raise hC T hf r nz⟩
end
end Z

set_option Elab.async false
set_option linter.all false
set_option maxRecDepth 100000
/-! Z13: try with several clauses, named or not. -/
namespace Z
open PySem PySem.Spec PyProof.Rows L2
abbrev HdT := Value × Option Nat × (Addr → Value → Option Addr → TS)
/-- behind a suite its name is gone -/
def endsAt (i : Nat) (D : Ends) : Ends := { nx := fun σ' H' => D.nx (σ'.set i none) H', rt := D.rt, bk := fun σ' H' => D.bk (σ'.set i none) H', ct := fun σ' H' => D.ct (σ'.set i none) H' }
def wHds (K : PySem.W.Frag) (Wout : WX) (D : Ends) : List HdT → WX
  | [] => Wout
  | (c, none, ts) :: r => fun cls d σ H => ∃ b, PySem.W.exmOne K cls c = some b ∧ (b = true → ∀ a, H a = none → ts a cls d D σ H) ∧ (b = false → wHds K Wout D r cls d σ H)
  | (c, some i, ts) :: r => fun cls d σ H => ∃ b, PySem.W.exmOne K cls c = some b ∧ (b = true → ∀ a, H a = none → ts a cls d (endsAt i D) (σ.set i (some (.ref a))) H) ∧ (b = false → wHds K Wout D r cls d σ H)
inductive HdsN (X : Cx) : List ExceptHandler → List HdT → Prop
  | nil : HdsN X [] []
  | cons {x : Str} {c : Value} {ts : Addr → Value → Option Addr → TS} {b₀ : Stmt} {suite : List Stmt} {np pos' : Pos} {hds : List ExceptHandler} {l : List HdT} (hc : Names X x c)
      (hsu : ∀ (a : Addr) (oe : Obj) (cls : Value) (d : Option Addr) (pn : List (Addr × Obj)), Zc cls d oe → (∃ vs, oe.data = .fields vs) → PSs (X.suite a ((a, oe) :: pn)) (b₀ :: suite) (ts a cls d)) (r : HdsN X hds l) :
      HdsN X (.ExceptHandler (some (.Name x np)) none (b₀ :: suite) pos' :: hds) ((c, none, ts) :: l)
  | consAs {x n : Str} {c : Value} {i : Nat} {ts : Addr → Value → Option Addr → TS} {b₀ : Stmt} {suite : List Stmt} {np pos' : Pos} {hds : List ExceptHandler} {l : List HdT} (hc : Names X x c) (hi : X.N[i]? = some n) (hln : X.env.kindOf n = some .local)
      (hsu : ∀ (a : Addr) (oe : Obj) (cls : Value) (d : Option Addr) (pn : List (Addr × Obj)), Zc cls d oe → (∃ vs, oe.data = .fields vs) → PSs (X.suite a ((a, oe) :: pn)) (b₀ :: suite) (ts a cls d)) (r : HdsN X hds l) :
      HdsN X (.ExceptHandler (some (.Name x np)) (some n) (b₀ :: suite) pos' :: hds) ((c, some i, ts) :: l)
section
variable {X : Cx} {body : List Stmt} {h₀ : ExceptHandler} {hds : List ExceptHandler} {l : List HdT} {pos : Pos} {tb : WX → TS} {Wout : WX}
/-- an error that the body let go, while the clauses look at it -/
structure Got (X : Cx) (pl : List (Addr × Obj)) (a : Addr) (B : Heap) (sI : Shared) (σ : L2.St) (H : Hp) (cls : Value) (d : Option Addr) (s : Shared) : Prop where
  own : X.stack = X.env :: X.outer
  at_ : X.env.frame = some X.env.locals
  old : Inv X pl σ H sI
  nb : ∀ b o, sI.heap.get? b = some o → b ∉ frs X.stack → B.get? b = some o
  fly : HandSPX.FlyingZ B (X.env :: X.outer) a (Zc cls d) s.heap
  up : sI.heap.UpToSlots s.heap
  na : H a = none
  os : s.os = sI.os
  ag : AllBare s.gens
section
variable {pl : List (Addr × Obj)} {a : Addr} {B : Heap} {sI s : Shared} {σ : L2.St} {H : Hp} {cls c : Value} {d : Option Addr} {x n : Str} {np p2 : Pos} {D : Ends} {b0 : Stmt} {bs : List Stmt} {ts : Addr → Value → Option Addr → TS} {i : Nat}
theorem Got.inv (g : Got X pl a B sI σ H cls d s) : Inv X pl σ H s := g.old.landed g.nb g.fly.1 g.up g.os g.ag
theorem Got.move {h : Heap} (g : Got X pl a B sI σ H cls d s) (fl : HandSPX.FlyingZ B (X.env :: X.outer) a (Zc cls d) h) (u : s.heap.UpToSlots h) : Got X pl a B sI σ H cls d { s with heap := h } := { g with fly := fl, up := g.up.trans u }
/-- it is no frame -/
theorem Got.noFrame (g : Got X pl a B sI σ H cls d s) : a ∉ frs (X.env :: X.outer) := fun hm => by
  obtain ⟨oe, us, e1, _, e2⟩ := g.fly.there
  obtain ⟨_, o2, e3, e4⟩ := g.fly.2.2.1.mem hm
  exact e4 us (by rw [← Option.some.inj (e1.symm.trans e3)]; exact e2)
theorem Got.inSuite (g : Got X pl a B sI σ H cls d s) : ∃ oe, s.heap.get? a = some oe ∧ Zc cls d oe ∧ (∃ us, oe.data = .fields us) ∧ Inv (X.suite a ((a, oe) :: (X.pn ++ pl))) [] σ H s := by
  obtain ⟨oe, us, e1, z, e2⟩ := g.fly.there
  have n1 : a ≠ X.env.locals := fun z => g.noFrame (List.mem_filterMap.mpr ⟨X.env, by simp, by rw [g.at_, z]⟩)
  have n2 : a ∉ X.fs := fun hm => let ⟨e, he, q⟩ := List.mem_filterMap.mp hm; g.noFrame (List.mem_filterMap.mpr ⟨e, List.mem_cons_of_mem _ he, q⟩)
  exact ⟨oe, e1, z, ⟨us, e2⟩, g.inv.suite e1 e2 g.na n1 n2⟩
/-- a clause asks whether it serves it -/
theorem Got.asked {b : Bool} {R : Result → Shared → Prop} (g : Got X pl a B sI σ H cls d s) (nm : Names X x c) (hb : PySem.W.exmOne X.K cls c = some b) (h : R (.ok (if b then .brk else .next)) s) :
    codeAny (model X.prog X.w) (X.A.mark (some (.ref a))) (.handlers (.ref a) [.ExceptHandler (some (.Name x np)) none [] p2] X.env) R s := by
  obtain ⟨oe, e1, z, _, S⟩ := g.inSuite
  have look : PySem.W.Looks (model X.prog X.w) s.heap (typeOf (.ref a)) cls := fun _ _ _ _ k q => wpAny_typeOf_ref (k _ _ e1) (by rw [z.1]; exact q)
  refine codeAny_handlers_test ?_
  rcases nm with ⟨n1, n2, n3 | ⟨n3, n4, n5⟩⟩
  · exact ld_glob S n1 n3 ((PySem.W.exm_one g.inv.kIn look hb).here h) n2
  · exact ld_blt S n1 n3 n4 ((PySem.W.exm_one g.inv.kIn look hb).here h) n5 n2
/-- none serves it: it goes on -/
theorem Got.unserved {Wout : WX} (g : Got X pl a B sI σ H cls d s) (tk : Takes X Wout) (w : Wout cls d σ H) : wpAny (model X.prog X.w) X.A (handleBy (.ref a) X.env []) (SP X pl D) X.xe s := by
  have thrown : wpAny (model X.prog X.w) X.A (setFlight (.ref a) X.env.frame) (fun _ s4 => wpAny (model X.prog X.w) X.A (throw (.ref a) : Sem Flow) (SP X pl D) X.xe s4) X.xe s := by
    rw [g.at_]
    exact HandSPX.setFlight_upZ g.fly fun h4 held u => wpAny_throw (tk _ _ ⟨a, B, sI, pl, σ, H, cls, d, rfl, g.old, g.nb, g.up.trans u, .inr (.inr (by rw [g.own]; exact held)), g.na, g.os, g.ag, w⟩)
  obtain ⟨_, _, _, oe, us, T, _, _, e1, _, e2, e3, _⟩ := id g.fly
  refine wpAny_handleBy_nil ?_
  unfold PySem.passOn
  refine wpAny_bind (wpAny_field e1 e2 e3 ?_)
  have nn : ¬ ((Value.ref T == Value.none) = true) := by simp
  rw [if_neg nn]
  first | exact wpAny_bind (wpAny_pure (wpAny_bind thrown)) | exact wpAny_bind thrown
/-- what a suite's end says of the frame -/
theorem suite_end {q : Addr × Obj} {f : Flow} {s6 : Shared} (ok : X.Ok) (h : SP (X.suite a (q :: (X.pn ++ pl))) [] D f s6) : SP X pl D f s6 := by
  cases f with
  | ret u => exact let ⟨v, σ6, H6, S, r, k⟩ := h; ⟨v, σ6, H6, S.unsuite ok, r, k⟩
  | next => exact let ⟨σ6, H6, S, k⟩ := h; ⟨σ6, H6, S.unsuite ok, k⟩
  | brk => exact let ⟨σ6, H6, S, k⟩ := h; ⟨σ6, H6, S.unsuite ok, k⟩
  | cont => exact let ⟨σ6, H6, S, k⟩ := h; ⟨σ6, H6, S.unsuite ok, k⟩
/-- a suite without a name -/
theorem Got.runs {R : Result → Shared → Prop} (g : Got X pl a B sI σ H cls d s) (hsu : ∀ (a : Addr) (oe : Obj) (cls : Value) (d : Option Addr) (pn : List (Addr × Obj)), Zc cls d oe → (∃ vs, oe.data = .fields vs) → PSs (X.suite a ((a, oe) :: pn)) (b0 :: bs) (ts a cls d)) (w : ts a cls d D σ H) (h : ∀ f s6, SP X pl D f s6 → R (.ok f) s6) :
    codeAny (model X.prog X.w) (X.A.mark (some (.ref a))) (.handlers (.ref a) [.ExceptHandler none none (b0 :: bs) p2] X.env) R s := by
  refine codeAny_handlers_suite (HandSPX.lands_againZ g.fly fun h4 fl u => ?_)
  obtain ⟨oe, _, z, df, S⟩ := (g.move fl u).inSuite
  exact wpAny_mono ((hsu a oe cls d _ z df).run [] _ _ H _ S w) (fun f s6 q => h f s6 (suite_end g.inv.ok q)) fun _ _ z => z.elim
/-- a suite with a name, which goes at its end -/
theorem Got.runsAs {R : Result → Shared → Prop} (g : Got X pl a B sI σ H cls d s) (hN : X.N.Nodup) (hi : X.N[i]? = some n) (hl : X.env.kindOf n = some .local) (hsu : ∀ (a : Addr) (oe : Obj) (cls : Value) (d : Option Addr) (pn : List (Addr × Obj)), Zc cls d oe → (∃ vs, oe.data = .fields vs) → PSs (X.suite a ((a, oe) :: pn)) (b0 :: bs) (ts a cls d))
    (w : ts a cls d (endsAt i D) (σ.set i (some (.ref a))) H) (h : ∀ f s6, wpAny (model X.prog X.w) X.A (do bindName X.env n .none; unbindBehindTheSuite X.env n p2) (fun _ s7 => SP X pl D f s7) X.xe s6 → R (.ok f) s6) :
    codeAny (model X.prog X.w) (X.A.mark (some (.ref a))) (.handlers (.ref a) [.ExceptHandler none (some n) (b0 :: bs) p2] X.env) R s := by
  refine codeAny_handlers_suite_as (HandSPX.lands_againZ g.fly fun h4 fl u => ?_)
  obtain ⟨oe, _, z, df, S⟩ := (g.move fl u).inSuite
  have at_ : Loc (X.suite a ((a, oe) :: (X.pn ++ pl))).env.scope n := .inl hl
  refine store_ok (X := X.suite a ((a, oe) :: (X.pn ++ pl))) (v := .ref a) (hx := at_) (hf := .inr hl) (hi := hi) (hN := hN) (r := rfl) S fun s5 S5 => ?_
  refine wpAny_mono ((hsu a oe cls d _ z df).run [] s5 _ H _ S5 w) (fun f s6 q => h f s6 ?_) fun _ _ z => z.elim
  have q := suite_end g.inv.ok q
  cases f with
  | ret u => exact let ⟨v, σ6, H6, J, r, k⟩ := q; gone_ok J hN hi hl fun s7 J7 => ⟨v, _, H6, J7, r, k⟩
  | next => exact let ⟨σ6, H6, J, k⟩ := q; gone_ok J hN hi hl fun s7 J7 => ⟨_, H6, J7, k⟩
  | brk => exact let ⟨σ6, H6, J, k⟩ := q; gone_ok J hN hi hl fun s7 J7 => ⟨_, H6, J7, k⟩
  | cont => exact let ⟨σ6, H6, J, k⟩ := q; gone_ok J hN hi hl fun s7 J7 => ⟨_, H6, J7, k⟩
theorem Got.all {Wout : WX} (tk : Takes X Wout) (hN : X.N.Nodup) {hds : List ExceptHandler} {l : List HdT} (hk : HdsN X hds l) : ∀ {s : Shared}, Got X pl a B sI σ H cls d s → wHds X.K Wout D l cls d σ H → wpAny (model X.prog X.w) X.A (handleBy (.ref a) X.env hds) (SP X pl D) X.xe s := by
  induction hk with
  | nil => exact fun g w => g.unserved tk w
  | cons nm hsu _ ih =>
    rintro s g ⟨b, hb, yes, no⟩
    refine wpAny_handleBy_cons (g.asked nm hb ?_) (by intro q; cases q)
    cases b with
    | true =>
      refine g.runs hsu (yes rfl a g.na) fun f s6 q => ?_
      exact q
    | false => exact ih g (no rfl)
  | consAs nm hi hl hsu _ ih =>
    rintro s g ⟨b, hb, yes, no⟩
    refine wpAny_handleBy_cons (g.asked nm hb ?_) (by intro q; cases q)
    cases b with
    | true =>
      refine g.runsAs hN hi hl hsu (yes rfl a g.na) fun f s6 q => ?_
      exact q
    | false => exact ih g (no rfl)
end
theorem ps_tryN (hs : X.stack = X.env :: X.outer) (hf : X.env.frame = some X.env.locals) (hN : X.N.Nodup) (tk : Takes X Wout)
    (hb : ∀ (W : WX) (pn : List (Addr × Obj)) (xe : Value → Shared → Prop), Takes (X.tr pn xe) W → PassesOwn (model X.prog X.w) X.A X.env xe → PSs (X.tr pn xe) body (tb W))
    (hh : HdsN X (h₀ :: hds) l) : PS X (.Try body (h₀ :: hds) [] [] pos) (fun D σ H => tb (wHds X.K Wout D l) D σ H) := by
  refine ⟨fun pl s σ H D I h => wpAny_Try_except ?_⟩
  have caught : ∀ (xe : Value → Shared → Prop) e s1, XE (X.tr (X.pn ++ pl) xe) (wHds X.K Wout D l) e s1 → wpAny (model X.prog X.w) X.A (noteFrame e X.env) (fun _ s2 => wpAny (model X.prog X.w) X.A (setFlight e none) (fun _ s3 => wpAny (model X.prog X.w) X.A (handleBy e X.env (h₀ :: hds)) (SP X pl D) X.xe s3) X.xe s2) X.xe s1 := by
    rintro xe _ s1 ⟨a, B, sI, p1, σ1, H1, cls, d, rfl, J, nb, up, sky, na, os, ag, w⟩
    have J := J.ofTry I.ok
    have fr : X.A.frames = some (X.env :: X.outer) := by rw [← hs]; exact I.ok.frames
    exact Sky.land Zc.steady fr hf (by rw [← hs]; exact sky) fun h3 fl u => Got.all tk hN hh ⟨hs, hf, J, nb, fl, up.trans u, na, os, ag⟩ w
  refine wpAny_mono ((hb _ (X.pn ++ pl) _ (fun e s1 h => caught _ e s1 h) PassesOwn.looking).run [] s σ H D (I.toTry _) h) (fun f s1 q => ?_) fun _ _ z => z
  cases f with
  | ret u => exact let ⟨v, σ6, H6, J, r, k⟩ := q; ⟨v, σ6, H6, J.ofTry I.ok, r, k⟩
  | next => exact let ⟨σ6, H6, J, k⟩ := q; wpAny_execs_nil ⟨σ6, H6, J.ofTry I.ok, k⟩
  | brk => exact let ⟨σ6, H6, J, k⟩ := q; ⟨σ6, H6, J.ofTry I.ok, k⟩
  | cont => exact let ⟨σ6, H6, J, k⟩ := q; ⟨σ6, H6, J.ofTry I.ok, k⟩
end

section
variable (K : PySem.W.Frag) (mg : Str → Option Value) (ea : EA) (Wx : WX)
def tsOf (m : Mo Fl) : TS := fun D σ H => ∃ io Fr s r s', Sim K mg ea io Fr s σ H ∧ m s = some (r, s') ∧
  (r = .ok .nx → ∀ σ' H' io', PostS K mg ea io Fr s σ H s' σ' io' H' → D.nx σ' H') ∧ (r = .ok .bk → ∀ σ' H' io', PostS K mg ea io Fr s σ H s' σ' io' H' → D.bk σ' H') ∧
  (r = .ok .ct → ∀ σ' H' io', PostS K mg ea io Fr s σ H s' σ' io' H' → D.ct σ' H') ∧ (∀ f, r = .ok (.rt f) → ∀ v H' io', PostF K mg io (Ms io Fr s σ) Fr H s'.G io' H' f v → D.rt v H') ∧
  (∀ x, r = .error x → ∀ cls d σ' H' io', PostX K mg ea io Fr s σ H s' σ' io' H' x cls d → Wx cls d σ' H')
end
theorem ref_tsOf {K : PySem.W.Frag} {mg : Str → Option Value} {ea : EA} {Wx : WX} (m : Mo Fl) : RefS K mg ea Wx (tsOf K mg ea Wx m) m := fun σ H io Fr s S0 r s' e D h1 h2 h3 h4 h5 => ⟨io, Fr, s, r, s', S0, e, h1, h2, h3, h4, h5⟩
theorem Pess.can {X : Cx} {ea : EA} {Wx : WX} {sts : List Stmt} {m : Mo Fl} (h : Pess X ea Wx sts m) : PSs X sts (tsOf X.K X.mg ea Wx m) := by
  obtain ⟨t, p, r⟩ := h.ex
  exact ⟨fun pins s σ H D I ⟨io, Fr, s1, r0, s', S0, e, h1, h2, h3, h4, h5⟩ => p.run pins s σ H D I (r σ H io Fr s1 S0 r0 s' e D h1 h2 h3 h4 h5)⟩

def noExc (r : List SV) : Bool := r.all fun x => match x with
  | .exc _ => false
  | _ => true
theorem noExc_get {r : List SV} {i : Nat} {x : Ex} (h : noExc r = true) : r[i]? ≠ some (.exc x) := fun e => by
  have := List.all_eq_true.mp h _ (List.mem_of_getElem? e)
  simp at this
structure Hd where
  tbl : List (Str × Bool)
  slot : Option Nat
  suite : Mo Fl
def runSuite (h : Hd) (x : Ex) : Mo Fl := fun s => if noExc s.r = true then match h.slot with
  | none => (match h.suite s with
    | some (.ok f, s') => if noExc s'.r = true then some (.ok f, s') else none
    | _ => none)
  | some i => (match h.suite { s with r := s.r.set i (.exc x) } with
    | some (.ok f, s') => if noExc (s'.r.set i .non) = true then some (.ok f, { s' with r := s'.r.set i .non }) else none
    | _ => none)
  else none
def handleM : List Hd → Ex → Mo Fl
  | [], x => raiseM x
  | h :: hs, x => fun s => match h.tbl.lookup x.nm with
    | none => none
    | some true => runSuite h x s
    | some false => handleM hs x s
def mTry (mb : Mo Fl) (hs : List Hd) : Mo Fl := fun s => match mb s with
  | none => none
  | some (.ok f, s') => some (.ok f, s')
  | some (.error x, s') => handleM hs x s'
section
variable {K : PySem.W.Frag} {mg : Str → Option Value} {ea ea' : EA} {io io' : List Addr} {Fr Fr' : Addr → Prop} {s s' s2 : S} {σ σ' : L2.St} {H H' : Hp} {w : W} {v : V} {c : Cell} {o : HO} {a p C : Addr} {ws : List W} {vs : List V} {M M' : Addr → Prop} {Wx : WX}
theorem Sim.toEA (x : Sim K mg ea io Fr s σ H) (h : noExc s.r = true) : Sim K mg ea' io Fr s σ H := ⟨x.len, x.g, x.val, x.own, x.dist, fun i y e => absurd e (noExc_get h)⟩
theorem Sim.setExc {i : Nat} {x : Ex} {cls : Value} {d : Option Addr} (y : Sim K mg ea io Fr s σ H) (h : noExc s.r = true) (e : ExR K mg io (Ms io Fr s σ) H x cls d) :
    Sim K mg ⟨a, cls, d⟩ io Fr { s with r := s.r.set i (.exc x) } (σ.set i (some (.ref a))) H ∧ (∀ b, Ms io Fr { s with r := s.r.set i (.exc x) } (σ.set i (some (.ref a))) b → Ms io Fr s σ b) := by
  have key : ∀ (j : Nat) (z : SV), (s.r.set i (.exc x))[j]? = some z → (∀ q, z ≠ .exc q) → i ≠ j ∧ s.r[j]? = some z := fun j z e n => by
    by_cases ij : i = j
    · subst ij
      have hi := get_lt e
      simp only [List.length_set] at hi
      rw [List.getElem?_set_self hi] at e
      cases e
      exact absurd rfl (n x)
    · rw [List.getElem?_set_ne ij] at e
      exact ⟨ij, e⟩
  have fo : ∀ b, FrO Fr (s.r.set i (.exc x)) (σ.set i (some (.ref a))) b → FrO Fr s.r σ b := fun b z => z.imp id fun ⟨j, c, h1, h2⟩ => by
    obtain ⟨ij, e⟩ := key j _ h1 (fun q => by intro z; cases z)
    rw [List.getElem?_set_ne ij] at h2
    exact ⟨j, c, e, h2⟩
  have le : ∀ b, Ms io Fr { s with r := s.r.set i (.exc x) } (σ.set i (some (.ref a))) b → Ms io Fr s σ b := fun b z => z.imp id (fo b)
  refine ⟨⟨by simp [y.len], y.g.less fo, fun j w q => ?_, fun j c q => ?_, fun j k c d b q1 q2 q3 q4 => ?_, fun j z q => ?_⟩, le⟩
  · obtain ⟨ij, q'⟩ := key j _ q (fun q => by intro z; cases z)
    obtain ⟨v, h1, h2⟩ := y.val j w q'
    exact ⟨v, by rw [List.getElem?_set_ne ij]; exact h1, h2.pers (.less le)⟩
  · obtain ⟨ij, q'⟩ := key j _ q (fun q => by intro z; cases z)
    obtain ⟨b, o, h1, h2, h3, h4⟩ := y.own j c q'
    exact ⟨b, o, by rw [List.getElem?_set_ne ij]; exact h1, h2, h3.pers (.less le), h4⟩
  · obtain ⟨ij, e1⟩ := key j _ q1 (fun q => by intro z; cases z)
    obtain ⟨ik, e2⟩ := key k _ q2 (fun q => by intro z; cases z)
    rw [List.getElem?_set_ne ij] at q3
    rw [List.getElem?_set_ne ik] at q4
    exact y.dist j k c d b e1 e2 q3 q4
  · by_cases ij : i = j
    · subst ij
      have hi := get_lt q
      simp only [List.length_set] at hi
      rw [List.getElem?_set_self hi] at q
      cases q
      exact ⟨List.getElem?_set_self (by rw [← y.len]; exact hi), e.pers (.less le)⟩
    · simp only at q
      rw [List.getElem?_set_ne ij] at q
      exact absurd q (noExc_get h)
/-- a clause of the walk and of the mirror -/
inductive HdsM (K : PySem.W.Frag) (mg : Str → Option Value) : List HdT → List Hd → Prop
  | nil : HdsM K mg [] []
  | cons {c : Value} {os : Option Nat} {tbl : List (Str × Bool)} {m : Mo Fl} {l : List HdT} {hs : List Hd} (ht : ∀ nm b, tbl.lookup nm = some b → ∀ C, mg nm = some (.ref C) → PySem.W.exmOne K (.ref C) c = some b) (r : HdsM K mg l hs) :
      HdsM K mg ((c, os, fun a cls d => tsOf K mg ⟨a, cls, d⟩ W0 m) :: l) (⟨tbl, os, m⟩ :: hs)
theorem handle_ok {l : List HdT} {hs : List Hd} (h : HdsM K mg l hs) : ∀ {x : Ex} {s0 : S} {σ0 : L2.St} {H0 : Hp} {io0 : List Addr} {cls : Value} {d : Option Addr} {r : Except Ex Fl}, PostX K mg ea io0 Fr s0 σ0 H0 s σ io H x cls d → handleM hs x s = some (r, s') → ∀ D : Ends,
    (r = .ok .nx → ∀ σ' H' io', PostS K mg ea io0 Fr s0 σ0 H0 s' σ' io' H' → D.nx σ' H') → (r = .ok .bk → ∀ σ' H' io', PostS K mg ea io0 Fr s0 σ0 H0 s' σ' io' H' → D.bk σ' H') →
    (r = .ok .ct → ∀ σ' H' io', PostS K mg ea io0 Fr s0 σ0 H0 s' σ' io' H' → D.ct σ' H') → (∀ f, r = .ok (.rt f) → ∀ v H' io', PostF K mg io0 (Ms io0 Fr s0 σ0) Fr H0 s'.G io' H' f v → D.rt v H') →
    (∀ x, r = .error x → ∀ cls d σ' H' io', PostX K mg ea io0 Fr s0 σ0 H0 s' σ' io' H' x cls d → Wx cls d σ' H') → wHds K Wx D l cls d σ H := by
  induction h with
  | nil =>
    intro x s0 σ0 H0 io0 cls d r p e D h1 h2 h3 h4 h5
    cases e
    exact h5 x rfl cls d σ H io p
  | @cons c os tbl m l hs ht r0 ih =>
    intro x s0 σ0 H0 io0 cls d r p e D h1 h2 h3 h4 h5
    unfold handleM at e
    obtain ⟨S1, T1, C, hm, rfl, hd⟩ := id p
    split at e
    · cases e
    · rename_i hl
      have hx := ht _ _ hl C hm
      unfold runSuite at e
      split at e
      · rename_i hne
        cases os with
        | none =>
          refine ⟨true, hx, fun _ a ha => ?_, fun z => by cases z⟩
          simp only at e
          split at e
          · rename_i f s2 k
            split at e
            · rename_i hn2
              cases e
              refine ⟨io, Fr, s, _, _, S1.toEA hne, k, fun q σ' H' io' p2 => ?_, fun q σ' H' io' p2 => ?_, fun q σ' H' io' p2 => ?_, fun f' q v H' io' p2 => ?_, fun x q => by cases q⟩
              · exact h1 q σ' H' io' ⟨p2.1.toEA hn2, T1.trans p2.2⟩
              · exact h2 q σ' H' io' ⟨p2.1.toEA hn2, T1.trans p2.2⟩
              · exact h3 q σ' H' io' ⟨p2.1.toEA hn2, T1.trans p2.2⟩
              · exact h4 f' q v H' io' (p2.trans T1)
            · cases e
          · cases e
        | some i =>
          refine ⟨true, hx, fun _ a ha => ?_, fun z => by cases z⟩
          simp only at e
          split at e
          · rename_i f s2 k
            split at e
            · rename_i hn2
              cases e
              obtain ⟨S2, l2⟩ := S1.setExc (a := a) (i := i) hne p.2.2
              have T2 : Stp io0 (Ms io0 Fr s0 σ0) Fr H0 io (Ms io Fr { s with r := s.r.set i (.exc x) } (σ.set i (some (.ref a)))) H := T1.less l2
              have back : ∀ {σ' : L2.St} {H' : Hp} {io' : List Addr}, PostS K mg ⟨a, .ref C, d⟩ io Fr { s with r := s.r.set i (.exc x) } (σ.set i (some (.ref a))) H s2 σ' io' H' → PostS K mg ea io0 Fr s0 σ0 H0 { s2 with r := s2.r.set i .non } (σ'.set i none) io' H' := fun {σ' H' io'} p2 => by
                obtain ⟨S3, l3⟩ := p2.1.drop1 (i := i) (u := none)
                exact ⟨S3.toEA hn2, (T2.trans p2.2).less l3⟩
              refine ⟨io, Fr, _, _, _, S2, k, fun q σ' H' io' p2 => ?_, fun q σ' H' io' p2 => ?_, fun q σ' H' io' p2 => ?_, fun f' q v H' io' p2 => ?_, fun x q => by cases q⟩
              · exact h1 q _ H' io' (back p2)
              · exact h2 q _ H' io' (back p2)
              · exact h3 q _ H' io' (back p2)
              · exact h4 f' q v H' io' (p2.trans T2)
            · cases e
          · cases e
      · cases e
    · rename_i hl
      have hx := ht _ _ hl C hm
      have := ih p e D h1 h2 h3 h4 h5
      cases os with
      | none => exact ⟨false, hx, ⟨fun z => (by cases z), fun _ => this⟩⟩
      | some i => exact ⟨false, hx, ⟨fun z => (by cases z), fun _ => this⟩⟩
theorem ref_try {l : List HdT} {hs : List Hd} {mb : Mo Fl} (h : HdsM K mg l hs) : RefS K mg ea Wx (fun D σ H => (fun W => tsOf K mg ea W mb) (wHds K Wx D l) D σ H) (mTry mb hs) := by
  intro σ H io Fr s S0 r0 s' e D hnx hbk hct hrt hex
  unfold mTry at e
  split at e
  · cases e
  · rename_i f s1 k
    cases e
    exact ⟨io, Fr, s, _, _, S0, k, hnx, hbk, hct, hrt, fun x q => by cases q⟩
  · rename_i x s1 k
    refine ⟨io, Fr, s, _, _, S0, k, fun q => (by cases q), fun q => (by cases q), fun q => (by cases q), fun _ q => (by cases q), fun x' q cls d σ' H' io' p => ?_⟩
    cases q
    exact handle_ok h p e D hnx hbk hct hrt hex
end
section
variable {X : Cx} {ea : EA} {Wx : WX} {body : List Stmt} {h₀ : ExceptHandler} {hds : List ExceptHandler} {pos : Pos} {mb : Mo Fl}
/-- the clauses of a try, with the parts of the mirror -/
structure PHds (X : Cx) (hds : List ExceptHandler) (hs : List Hd) : Prop where
  ex : ∃ l, HdsN X hds l ∧ HdsM X.K X.mg l hs
theorem phds_nil : PHds X [] [] := ⟨[], .nil, .nil⟩
variable {x n : Str} {c : Value} {i : Nat} {b₀ : Stmt} {suite : List Stmt} {np pos' : Pos} {hs : List Hd} {tbl : List (Str × Bool)} {m : Mo Fl}
theorem phds_cons (hc : Names X x c) (ht : ∀ nm b, tbl.lookup nm = some b → ∀ C, X.mg nm = some (.ref C) → PySem.W.exmOne X.K (.ref C) c = some b)
    (hsu : ∀ (a : Addr) (oe : Obj) (cls : Value) (d : Option Addr) (pn : List (Addr × Obj)), Zc cls d oe → (∃ vs, oe.data = .fields vs) → Pess (X.suite a ((a, oe) :: pn)) ⟨a, cls, d⟩ W0 (b₀ :: suite) m) (r : PHds X hds hs) :
    PHds X (.ExceptHandler (some (.Name x np)) none (b₀ :: suite) pos' :: hds) (⟨tbl, none, m⟩ :: hs) :=
  let ⟨_, h1, h2⟩ := r.ex; ⟨_, .cons hc (fun a oe cls d pn hz hf => (hsu a oe cls d pn hz hf).can) h1, .cons ht h2⟩
theorem phds_as (i : Nat) (hc : Names X x c) (ht : ∀ nm b, tbl.lookup nm = some b → ∀ C, X.mg nm = some (.ref C) → PySem.W.exmOne X.K (.ref C) c = some b)
    (hsu : ∀ (a : Addr) (oe : Obj) (cls : Value) (d : Option Addr) (pn : List (Addr × Obj)), Zc cls d oe → (∃ vs, oe.data = .fields vs) → Pess (X.suite a ((a, oe) :: pn)) ⟨a, cls, d⟩ W0 (b₀ :: suite) m) (r : PHds X hds hs)
    (hi : X.N[i]? = some n := by rfl) (hln : X.env.kindOf n = some .local := by rfl) :
    PHds X (.ExceptHandler (some (.Name x np)) (some n) (b₀ :: suite) pos' :: hds) (⟨tbl, some i, m⟩ :: hs) :=
  let ⟨_, h1, h2⟩ := r.ex; ⟨_, .consAs hc hi hln (fun a oe cls d pn hz hf => (hsu a oe cls d pn hz hf).can) h1, .cons ht h2⟩
theorem pes_try (hN : X.N.Nodup) (tk : Takes X Wx) (hb : ∀ (W : WX) (pn : List (Addr × Obj)) (xe : Value → Shared → Prop), Takes (X.tr pn xe) W → PassesOwn (model X.prog X.w) X.A X.env xe → Pess (X.tr pn xe) ea W body mb)
    (hh : PHds X (h₀ :: hds) hs) (h1 : X.stack = X.env :: X.outer := by rfl) (h2 : X.env.frame = some X.env.locals := by rfl) : Pes X ea Wx (.Try body (h₀ :: hds) [] [] pos) (mTry mb hs) :=
  let ⟨_, p, q⟩ := hh.ex; ⟨_, ps_tryN (tb := fun W => tsOf X.K X.mg ea W mb) h1 h2 hN tk (fun W pn xe t pa => (hb W pn xe t pa).can) p, ref_try q⟩
end
end Z

set_option Elab.async false
set_option linter.all false
set_option maxRecDepth 100000
/-! Z14: owned lists and dicts changed in place. -/
namespace Z
open PySem PySem.Spec PyProof.Rows L2
section
variable {K : PySem.W.Frag} {mg : Str → Option Value} {ea : EA} {io io' : List Addr} {Fr Fr' : Addr → Prop} {s s' s2 : S} {σ σ' : L2.St} {H H' : Hp} {w : W} {v : V} {c c' : Cell} {o o' : HO} {a p C : Addr} {ws : List W} {vs : List V} {M M' : Addr → Prop} {Wx : WX}
theorem fro_own {i : Nat} (e : s.r[i]? = some (.own c)) : ∀ b, FrO Fr (s.r.set i (.own c')) σ b ↔ FrO Fr s.r σ b := by
  have hi := get_lt e
  intro b
  constructor
  · rintro (z | ⟨j, d, h1, h2⟩)
    · exact .inl z
    · by_cases ij : i = j
      · subst ij; exact .inr ⟨i, c, e, h2⟩
      · rw [List.getElem?_set_ne ij] at h1; exact .inr ⟨j, d, h1, h2⟩
  · rintro (z | ⟨j, d, h1, h2⟩)
    · exact .inl z
    · by_cases ij : i = j
      · subst ij; exact .inr ⟨i, c', List.getElem?_set_self hi, h2⟩
      · exact .inr ⟨j, d, by rw [List.getElem?_set_ne ij]; exact h1, h2⟩
theorem ms_own {i : Nat} (e : s.r[i]? = some (.own c)) : ∀ b, Ms io Fr { s with r := s.r.set i (.own c') } σ b ↔ Ms io Fr s σ b := fun b => by
  constructor
  · exact fun z => z.imp id (fro_own e b).1
  · exact fun z => z.imp id (fro_own e b).2
/-- an owned slot's object changed -/
theorem Sim.setOwnCell {i : Nat} (x : Sim K mg ea io Fr s σ H) (e : s.r[i]? = some (.own c)) (hs : σ[i]? = some (some (V.ref a))) (h : ∀ {H' : Hp}, Pers io (Ms io Fr s σ) H io (Ms io Fr s σ) H' → Rc K mg io (Ms io Fr s σ) H' c' o') :
    Sim K mg ea io Fr { s with r := s.r.set i (.own c') } σ (upd H a o') ∧ Stp io (Ms io Fr s σ) Fr H io (Ms io Fr { s with r := s.r.set i (.own c') } σ) (upd H a o') := by
  have hi := get_lt e
  obtain ⟨a0, o0, k1, k2, k3, k4⟩ := x.own i c e
  rw [hs] at k1; cases k1
  have aF : FrO Fr s.r σ a := .inr ⟨i, c, e, hs⟩
  have aM : Ms io Fr s σ a := .inr aF
  have nio : a ∉ io := fun z => x.g.dj a z aF
  have q : Pers io (Ms io Fr s σ) H io (Ms io Fr s σ) (upd H a o') := ⟨fun b u e hb => by rw [upd_ne (fun z => by subst z; exact hb aM)]; exact e, fun b z => .inl z, fun _ _ e => e⟩
  have le : ∀ b, Ms io Fr { s with r := s.r.set i (.own c') } σ b → Ms io Fr s σ b := fun b z => (ms_own e b).1 z
  have q' : Pers io (Ms io Fr s σ) H io (Ms io Fr { s with r := s.r.set i (.own c') } σ) (upd H a o') := ⟨q.keep, fun b z => .inl (le b z), q.ext⟩
  refine ⟨⟨by simpa using x.len, ⟨x.g.len, fun m b d h1 h2 => ?_, x.g.nd, fun b z => fun t => x.g.dj b z ((fro_own e b).1 t), fun b z => ?_⟩, fun j u t => ?_, fun j d t => ?_, fun j k d d' b t1 t2 t3 t4 => ?_, fun j y t => ?_⟩, q', fun b z => ?_, fun b u t => ?_⟩
  · obtain ⟨u, t, r⟩ := x.g.cell m b d h1 h2
    have nb : b ≠ a := fun z => by
      subst z
      exact nio (List.mem_of_getElem? h1)
    exact ⟨u, by rw [upd_ne nb]; exact t, r.pers q'⟩
  · by_cases ba : b = a
    · exact ⟨o', by rw [ba, upd_same], (h q).nt⟩
    · obtain ⟨u, t, n⟩ := x.g.fr b ((fro_own e b).1 z)
      exact ⟨u, by rw [upd_ne ba]; exact t, n⟩
  · by_cases ij : i = j
    · subst ij
      rw [show ({ s with r := s.r.set i (.own c') } : S).r = s.r.set i (.own c') from rfl, List.getElem?_set_self hi] at t
      cases t
    · rw [show ({ s with r := s.r.set i (.own c') } : S).r = s.r.set i (.own c') from rfl, List.getElem?_set_ne ij] at t
      obtain ⟨v, h1, h2⟩ := x.val j u t
      exact ⟨v, h1, h2.pers q'⟩
  · by_cases ij : i = j
    · subst ij
      rw [show ({ s with r := s.r.set i (.own c') } : S).r = s.r.set i (.own c') from rfl, List.getElem?_set_self hi] at t
      cases t
      exact ⟨a, o', hs, upd_same, (h q).pers (.less le), k4⟩
    · rw [show ({ s with r := s.r.set i (.own c') } : S).r = s.r.set i (.own c') from rfl, List.getElem?_set_ne ij] at t
      obtain ⟨b, u, h1, h2, h3, h4⟩ := x.own j d t
      have ba : b ≠ a := fun z => by
        subst z
        exact ij (x.dist i j c d b e t hs h1)
      exact ⟨b, u, h1, by rw [upd_ne ba]; exact h2, h3.pers q', h4⟩
  · have key : ∀ (j : Nat) (d : Cell), (s.r.set i (.own c'))[j]? = some (.own d) → ∃ d0, s.r[j]? = some (.own d0) := fun j d t => by
      by_cases ij : i = j
      · subst ij; exact ⟨c, e⟩
      · rw [List.getElem?_set_ne ij] at t; exact ⟨d, t⟩
    obtain ⟨d1, y1⟩ := key j d t1
    obtain ⟨d2, y2⟩ := key k d' t2
    exact x.dist j k d1 d2 b y1 y2 t3 t4
  · by_cases ij : i = j
    · subst ij
      rw [show ({ s with r := s.r.set i (.own c') } : S).r = s.r.set i (.own c') from rfl, List.getElem?_set_self hi] at t
      cases t
    · rw [show ({ s with r := s.r.set i (.own c') } : S).r = s.r.set i (.own c') from rfl, List.getElem?_set_ne ij] at t
      obtain ⟨h1, h2⟩ := x.exc j y t
      exact ⟨h1, h2.pers q'⟩
  · rw [upd_ne (fun t => by subst t; exact k4 z)]
  · by_cases ba : b = a
    · exact ⟨o', by rw [ba, upd_same]⟩
    · exact ⟨u, by rw [upd_ne ba]; exact t⟩
/-- the object that stands at a place -/
def cellAt (s : S) : RV → Option Cell
  | .hnd i => match s.r[i]? with
    | some (.own c) => some c
    | some (.val (.ref n)) => s.G[n]?
    | _ => none
  | .val (.ref n) => s.G[n]?
  | _ => none
def putAt (s : S) (c : Cell) : RV → S
  | .hnd i => match s.r[i]? with
    | some (.own _) => { s with r := s.r.set i (.own c) }
    | some (.val (.ref n)) => { s with G := s.G.set n c }
    | _ => s
  | .val (.ref n) => { s with G := s.G.set n c }
  | _ => s
theorem cell_ok (S0 : Sim K mg ea io Fr s σ H) {x : RV} (h : RvR K mg io (Ms io Fr s σ) σ H x v) (e : cellAt s x = some c) : ∃ a o, v = .ref a ∧ H a = some o ∧ Ms io Fr s σ a ∧ Rc K mg io (Ms io Fr s σ) H c o ∧
    ∀ c' o', (∀ {H' : Hp}, Pers io (Ms io Fr s σ) H io (Ms io Fr s σ) H' → Rc K mg io (Ms io Fr s σ) H' c' o') → Sim K mg ea io Fr (putAt s c' x) σ (upd H a o') ∧ Stp io (Ms io Fr s σ) Fr H io (Ms io Fr (putAt s c' x) σ) (upd H a o') ∧ (∀ b, Ms io Fr (putAt s c' x) σ b ↔ Ms io Fr s σ b) := by
  have viaRef : ∀ {n : Nat}, Rw K mg io (Ms io Fr s σ) H (.ref n) v → s.G[n]? = some c → ∃ a o, v = .ref a ∧ H a = some o ∧ Ms io Fr s σ a ∧ Rc K mg io (Ms io Fr s σ) H c o ∧
    ∀ c' o', (∀ {H' : Hp}, Pers io (Ms io Fr s σ) H io (Ms io Fr s σ) H' → Rc K mg io (Ms io Fr s σ) H' c' o') → Sim K mg ea io Fr { s with G := s.G.set n c' } σ (upd H a o') ∧ Stp io (Ms io Fr s σ) Fr H io (Ms io Fr { s with G := s.G.set n c' } σ) (upd H a o') ∧ (∀ b, Ms io Fr { s with G := s.G.set n c' } σ b ↔ Ms io Fr s σ b) := by
    intro n hr hg
    cases hr with
    | ref hn =>
      rename_i a
      obtain ⟨o, ho, hc⟩ := S0.g.cell n a c hn hg
      refine ⟨a, o, rfl, ho, .inl (List.mem_of_getElem? hn), hc, fun c' o' f => ?_⟩
      obtain ⟨S1, T1⟩ := S0.setCell hn f
      exact ⟨S1, T1, fun b => Iff.rfl⟩
  cases x with
  | own c => exact h.elim
  | val w =>
    cases w with
    | ref n => exact viaRef h e
    | _ => cases e
  | hnd i =>
    have h' : σ[i]? = some (some v) := h
    simp only [cellAt] at e
    split at e
    · rename_i c0 q
      cases e
      obtain ⟨a, o, h1, h2, h3, h4⟩ := S0.own i _ q
      rw [h'] at h1
      cases h1
      refine ⟨a, o, rfl, h2, .inr (.inr ⟨i, _, q, h'⟩), h3, fun c' o' f => ?_⟩
      obtain ⟨S1, T1⟩ := S0.setOwnCell q h' f
      have ep : putAt s c' (.hnd i) = { s with r := s.r.set i (.own c') } := by simp only [putAt, q]
      rw [ep]
      exact ⟨S1, T1, fun b => ms_own q b⟩
    · rename_i n q
      obtain ⟨u, h1, h2⟩ := S0.val i _ q
      rw [h'] at h1
      cases h1
      obtain ⟨a, o, k1, k2, k3, k4, k5⟩ := viaRef h2 e
      refine ⟨a, o, k1, k2, k3, k4, fun c' o' f => ?_⟩
      have ep : putAt s c' (.hnd i) = { s with G := s.G.set n c' } := by simp only [putAt, q]
      rw [ep]
      exact k5 c' o' f
    · cases e

/-- what a method does to the object -/
def MutR (K : PySem.W.Frag) (mg : Str → Option Value) (r : V → List V → Hp → VK → Prop) (f : Cell → List W → Option (W × Cell)) : Prop :=
  ∀ io M H a o c ws vs w c' Q, H a = some o → Rc K mg io M H c o → Rws K mg io M H ws vs → f c ws = some (w, c') → M a →
    (∀ o' v, (∀ {H' : Hp}, Pers io M H io M H' → Rc K mg io M H' c' o') → Rw K mg io M H w v → Q v (upd H a o')) → r (.ref a) vs H Q
/-- the class of the object -/
inductive CK where
  | lst
  | dict
def CK.ty : CK → String
  | .lst => "list"
  | .dict => "dict"
def CK.fits : CK → Cell → Bool
  | .lst, .lst _ => true
  | .dict, .dK _ => true
  | .dict, .dT _ => true
  | _, _ => false
theorem fits_ty {k : CK} (h : k.fits c = true) (ha : H a = some o) (r : Rc K mg io M H c o) : tyV K k.ty (.ref a) H := by
  cases k <;> cases c <;> simp [CK.fits] at h
  · obtain ⟨vs, rfl, _⟩ := r
    exact .inl ⟨rfl, vs, .inl (.inl ha)⟩
  · obtain ⟨vs, rfl, _⟩ := r
    exact .inr (.inr (.inl ⟨rfl, .inl ⟨vs, ha⟩⟩))
  · obtain ⟨vs, rfl, _⟩ := r
    exact .inr (.inr (.inl ⟨rfl, .inr ⟨vs, ha⟩⟩))
def mMut (k : CK) (f : Cell → List W → Option (W × Cell)) (mo : Mo RV) (ms : Mo (List RV)) : Mo RV := bnd mo fun x s => if ((cellAt s (settle x)).map k.fits) = some true then (bnd ms fun xs => bnd (freezeAll xs) fun ws s2 => match cellAt s2 (settle x) with
  | some c => (match f c ws with
    | some (w, c') => some (.ok (.val w), putAt s2 c' (settle x))
    | none => none)
  | none => none) s else none
theorem ref_mut {k : CK} {f : Cell → List W → Option (W × Cell)} {r : V → List V → Hp → VK → Prop} (hr : MutR K mg r f) {ta : TE} {t : TA} {mo : Mo RV} {ms : Mo (List RV)} (ho : RefE K mg ea Wx ta mo) (ha : RefA K mg ea Wx t ms) :
    RefE K mg ea Wx (tBM K k.ty r ta t) (mMut k f mo ms) := by
  intro σ H io Fr s S0 r0 s' e Q hok hex
  refine one2 ho S0 e hex fun x vx s1 H1 io1 e2 px => ?_
  obtain ⟨S1, T1, R1⟩ := px.settled
  split at e2
  · rename_i hc
    obtain ⟨c1, h1, h2⟩ := Option.map_eq_some_iff.mp hc
    obtain ⟨a, o, rfl, hH, hM, hR, _⟩ := cell_ok S1 R1 h1
    refine ⟨fits_ty h2 hH hR, ?_⟩
    refine arg2 ha S1 e2 (fun x q cls d H' io' p => hex x q cls d H' io' ⟨p.1, T1.trans p.2.1, p.2.2⟩) fun xs vs s4 H4 io4 e7 p4 R4 => ?_
    rcases bnd_some e7 with ⟨x, e8, rfl⟩ | ⟨ws, s5, e8, e9⟩
    · obtain ⟨_, _, _, _, q, _⟩ := freezeAll_ok p4.1 R4 e8
      cases q
    · obtain ⟨_, m5, S5, ws', q, r5⟩ := freezeAll_ok p4.1 R4 e8
      cases q
      have T5 := (T1.trans p4.2).less m5
      have R5 := RvR.pers ⟨fun _ _ h _ => h, fun a z => .inl (m5 a z), fun _ _ h => h⟩ (RvR.pers p4.2.p R1)
      split at e9
      · rename_i c5 hc5
        split at e9
        · rename_i w c' hf
          obtain ⟨a', o', h1, h2, h3, h4, h5⟩ := cell_ok S5 R5 hc5
          cases h1
          refine hr io4 _ H4 a o' c5 _ vs w c' Q h2 h4 r5 hf h3 fun o2 v f2 rw2 => ?_
          obtain ⟨S6, T6, m6⟩ := h5 c' o2 f2
          cases e9
          exact hok _ rfl v _ io4 ⟨S6, T5.trans T6, rw2.pers T6.p⟩
        · cases e9
      · cases e9
  · cases e2
/-! ### the methods of lists -/
theorem sz_le {n : Nat} (h : n ≤ sz) : n ≤ sizeLine := by rw [sizeLine_eq]; exact h
def fAppend : Cell → List W → Option (W × Cell)
  | .lst ws, [w] => if ws.length < sz then some (.non, .lst (ws ++ [w])) else none
  | _, _ => none
theorem mu_append : MutR K mg rAppend fAppend := by
  intro io M H a o c ws vs w c' Q ha hR hw e hM q
  unfold fAppend at e
  split at e
  · rename_i xs y
    split at e
    · rename_i hz
      cases e
      obtain ⟨us, rfl, r⟩ := hR
      obtain ⟨v, rest, rfl, h1, h2⟩ := hw.cons_inv
      have := h2.nil_inv
      subst this
      refine ⟨a, us, v, rfl, rfl, ha, ?_, q _ .non (fun {H'} p => ⟨_, rfl, (r.pers p).append (Rws.one (h1.pers p))⟩) .non⟩
      rw [← r.1, sizeLine_eq]; exact hz
    · cases e
  · cases e
def fInsert : Cell → List W → Option (W × Cell)
  | .lst ws, [.int i, w] => if ws.length < sz ∧ 0 ≤ i ∧ i < 2 ^ 63 then some (.non, .lst (ws.take i.toNat ++ [w] ++ ws.drop i.toNat)) else none
  | _, _ => none
theorem mu_insert : MutR K mg (fun x vs H Q => ∃ (l : Addr) (xs : List V) (i : Int) (y : V), x = .ref l ∧ vs = [.int i, y] ∧ H l = some (.lst xs) ∧ xs.length < sizeLine ∧ 0 ≤ i ∧ i < 2 ^ 63 ∧
    Q .non (upd H l (.lst (xs.take i.toNat ++ [y] ++ xs.drop i.toNat)))) fInsert := by
  intro io M H a o c ws vs w c' Q ha hR hw e hM q
  unfold fInsert at e
  split at e
  · rename_i xs i y
    split at e
    · rename_i hz
      cases e
      obtain ⟨us, rfl, r⟩ := hR
      obtain ⟨v, rest, rfl, h1, h2⟩ := hw.cons_inv
      obtain ⟨v2, rest2, rfl, h3, h4⟩ := h2.cons_inv
      have := h4.nil_inv
      subst this
      cases h1
      refine ⟨a, us, i, v2, rfl, rfl, ha, ?_, hz.2.1, hz.2.2, q _ .non (fun {H'} p => ⟨_, rfl, (((r.pers p).take _).append (Rws.one (h3.pers p))).append ((r.pers p).drop _)⟩) .non⟩
      rw [← r.1, sizeLine_eq]; exact hz.1
    · cases e
  · cases e
theorem Rws.erase (h : Rws K mg io M H ws vs) (i : Nat) : Rws K mg io M H (ws.eraseIdx i) (vs.eraseIdx i) := by
  rw [List.eraseIdx_eq_take_drop_succ, List.eraseIdx_eq_take_drop_succ]
  exact (h.take i).append (h.drop (i + 1))
def fPop : Cell → List W → Option (W × Cell)
  | .lst ws, [.int i] => if -(2 ^ 63) ≤ i ∧ i < 2 ^ 63 then (match ixN ws.length i with
    | some j => (match ws[j]? with
      | some w => some (w, .lst (ws.eraseIdx j))
      | none => none)
    | none => none) else none
  | _, _ => none
theorem mu_pop : MutR K mg rPopAt fPop := by
  intro io M H a o c ws vs w c' Q ha hR hw e hM q
  unfold fPop at e
  split at e
  · rename_i xs i
    split at e
    · rename_i hz
      split at e
      · rename_i j hj
        split at e
        · rename_i u hu
          cases e
          obtain ⟨us, rfl, r⟩ := hR
          obtain ⟨v, rest, rfl, h1, h2⟩ := hw.cons_inv
          have := h2.nil_inv
          subst this
          cases h1
          obtain ⟨y, hy, ry⟩ := r.get hu
          obtain ⟨k1, _⟩ := ixN_seq hj
          refine ⟨a, us, i, j, y, rfl, rfl, ha, hz.1, hz.2, by rw [← r.1]; exact k1, hy, q _ y (fun {H'} p => ⟨_, rfl, (r.pers p).erase j⟩) ry⟩
        · cases e
      · cases e
    · cases e
  · cases e
def isInt : W → Bool
  | .int _ => true
  | _ => false
def asInt : W → Int
  | .int i => i
  | _ => 0
theorem ints_w : ∀ {ws : List W} {vs : List V}, Rws K mg io M H ws vs → ws.all isInt = true → vs = (ws.map asInt).map V.int
  | [], vs, h, _ => by rw [h.nil_inv]; rfl
  | w :: ws, vs, h, e => by
    obtain ⟨v, r, rfl, h1, h2⟩ := h.cons_inv
    simp only [List.all_cons, Bool.and_eq_true] at e
    rw [ints_w h2 e.2]
    cases w <;> simp [isInt] at e
    cases h1
    rfl
theorem idx_first {k : Int} : ∀ {l : List Int} {m : Nat}, m < l.idxOf k → l[m]? ≠ some k
  | [], m, h, e => by simp at h
  | x :: l, m, h, e => by
    rw [List.idxOf_cons] at h
    cases m with
    | zero =>
      simp at e
      subst e
      simp at h
    | succ m =>
      by_cases q : (x == k) = true
      · rw [q] at h; simp at h
      · have q' : (x == k) = false := by simpa using q
        rw [q'] at h
        simp at h
        exact idx_first h (by simpa using e)
def fRemove : Cell → List W → Option (W × Cell)
  | .lst ws, [.int k] => if ws.all isInt = true ∧ k ∈ ws.map asInt then some (.non, .lst (ws.eraseIdx ((ws.map asInt).idxOf k))) else none
  | _, _ => none
theorem mu_remove : MutR K mg rRemI fRemove := by
  intro io M H a o c ws vs w c' Q ha hR hw e hM q
  unfold fRemove at e
  split at e
  · rename_i xs k
    split at e
    · rename_i hz
      cases e
      obtain ⟨us, rfl, r⟩ := hR
      obtain ⟨v, rest, rfl, h1, h2⟩ := hw.cons_inv
      have := h2.nil_inv
      subst this
      cases h1
      have eu := ints_w r hz.1
      have hlt := List.idxOf_lt_length_iff.mpr hz.2
      have hget : (xs.map asInt)[(xs.map asInt).idxOf k]? = some k := by rw [List.getElem?_eq_getElem hlt, List.getElem_idxOf]
      refine ⟨a, xs.map asInt, k, (xs.map asInt).idxOf k, rfl, rfl, by rw [ha, eu], hget, fun m hm z => ?_, ?_⟩
      · exact idx_first hm z
      · rw [← erase_mapI, ← eu]
        exact q _ .non (fun {H'} p => ⟨_, rfl, (r.pers p).erase _⟩) .non
    · cases e
  · cases e
end
/-- plain arguments, fewer than thirty -/
abbrev FewArgs (X : Cx) (at_ : Pos) (args : List Expr) : Prop :=
  (((backTo at_ (starEach args X.env)).all fun x => !x.1) && ((backToKw at_ (keywordEach [] X.env)).all fun x => x.1.isSome) && decide (args.length + ([] : List Keyword).length + (if ([] : List Keyword).isEmpty then 0 else 1) < 30)) = true
section
variable {X : Cx} {ea : EA} {Wx : WX} {e o : Expr} {es : List Expr} {mo mv : Mo RV} {ms : Mo (List RV)} {p pos apos cpos tpos : Pos} {name : Str} {id : String} {r : V → List V → Hp → VK → Prop} {f : Cell → List W → Option (W × Cell)} {k : CK}
theorem pee_mut (pa : PlainAttrs k.ty) (slot : Slot k.ty name id) (hty : typeOf (.builtin id) = pure (.type "method_descriptor")) (hm : MtR X id r) (hf : MutR X.K X.mg r f) (ho : Pee X ea Wx o mo) (ha : Pea X ea Wx (e :: es) ms)
    (hbase : attributeBase o name X.env (eval o X.env) = eval o X.env := by rfl)
    (hfew : FewArgs X cpos (e :: es) := by rfl)
    (hs : starEach (e :: es) X.env = (false, eval e X.env) :: starEach es X.env := by rfl) (hline : (apos.endLine == cpos.line) = true := by rfl) (hplain : (backTo cpos (starEach es X.env)).any (·.1) = false := by rfl) :
    Pee X ea Wx (.Call (.Attribute o name apos) (e :: es) [] cpos) (mMut k f mo ms) := by
  obtain ⟨t, q, rr⟩ := ho.ex
  obtain ⟨t', q', rr'⟩ := ha.ex
  exact ⟨_, pe_bm pa slot hty hm q q' hbase hfew hline hs hplain, ref_mut hf rr rr'⟩
end
end Z

set_option Elab.async false
set_option linter.all false
set_option maxRecDepth 100000
/-! Z15: o[i] = v, slices, truth, chains, name op= e, while. -/
namespace Z
open PySem PySem.Spec PyProof.Rows L2
section
variable {K : PySem.W.Frag} {mg : Str → Option Value} {ea : EA} {io io' : List Addr} {Fr Fr' : Addr → Prop} {s s' s2 : S} {σ σ' : L2.St} {H H' : Hp} {w : W} {v : V} {c c' : Cell} {o o' : HO} {a p C : Addr} {ws : List W} {vs : List V} {M M' : Addr → Prop} {Wx : WX}
def SetR (K : PySem.W.Frag) (mg : Str → Option Value) (r : TSet) (f : Cell → W → W → Option Cell) : Prop :=
  ∀ io M H a o c wi wv vi vv c' Q, H a = some o → Rc K mg io M H c o → Rw K mg io M H wi vi → Rw K mg io M H wv vv → f c wi wv = some c' →
    (∀ o', (∀ {H' : Hp}, Pers io M H io M H' → Rc K mg io M H' c' o') → Q (upd H a o')) → r (.ref a) vi vv H Q
def orf3 (f g : Cell → W → W → Option Cell) : Cell → W → W → Option Cell := fun c i w => match f c i w with
  | some z => some z
  | none => g c i w
theorem SetR.or {r r' : TSet} {f f' : Cell → W → W → Option Cell} (h : SetR K mg r f) (h' : SetR K mg r' f') : SetR K mg (fun o i v H Q => r o i v H Q ∨ r' o i v H Q) (orf3 f f') := by
  intro io M H a o c wi wv vi vv c' Q ha hr hi hv e q
  unfold orf3 at e
  cases k : f c wi wv with
  | some z =>
    rw [k] at e
    cases e
    exact .inl (h io M H a o c wi wv vi vv _ Q ha hr hi hv k q)
  | none =>
    rw [k] at e
    exact .inr (h' io M H a o c wi wv vi vv _ Q ha hr hi hv e q)
theorem PSet.or {X : Cx} {r r' : TSet} (h : PSet X r) (h' : PSet X r') : PSet X (fun o i v H Q => r o i v H Q ∨ r' o i v H Q) := by
  intro pins s σ H o i v ov iv u Q I ro ri rv q
  rcases q with q | q
  · exact h pins s σ H o i v ov iv u Q I ro ri rv q
  · exact h' pins s σ H o i v ov iv u Q I ro ri rv q
def putSub (f : Cell → W → W → Option Cell) (x : RV) (wi wy : W) : Mo Fl := fun s => match cellAt s x with
  | some c => (match f c wi wy with
    | some c' => some (.ok .nx, putAt s c' x)
    | none => none)
  | none => none
def mSub (f : Cell → W → W → Option Cell) (mv mo mi : Mo RV) : Mo Fl := bnd mv fun y => bnd (freeze (settle y)) fun wy => bnd mo fun x => bnd mi fun i => bnd (freeze (settle i)) fun wi => putSub f (settle x) wi wy
theorem froze_pers {x : RV} (l : ∀ b, Ms io Fr s' σ b → Ms io Fr s σ b) (h : RvR K mg io (Ms io Fr s σ) σ H x v) : RvR K mg io (Ms io Fr s' σ) σ H x v := RvR.pers (.less l) h
theorem ref_sub {f : Cell → W → W → Option Cell} {r : TSet} (hr : SetR K mg r f) {tv to ti : TE} {mv mo mi : Mo RV} (hv : RefE K mg ea Wx tv mv) (ho : RefE K mg ea Wx to mo) (hi : RefE K mg ea Wx ti mi) :
    RefS K mg ea Wx (tAsg tv (gSub to ti r)) (mSub f mv mo mi) := by
  intro σ H io Fr s S0 r0 s' e D hnx hbk hct hrt hex
  refine one2 hv S0 e (fun x q cls d H' io' px => hex x q cls d σ H' io' px) fun y vy s1 H1 io1 e2 px => ?_
  obtain ⟨S1, T1, R1⟩ := px.settled
  rcases bnd_some e2 with ⟨z, e3, _⟩ | ⟨wy, s3, e3, e4⟩
  · obtain ⟨_, _, _, _, q, _⟩ := freeze_ok S1 R1 e3
    cases q
  · obtain ⟨_, l3, S3, w', q, R3⟩ := freeze_ok S1 R1 e3
    cases q
    have T3 := T1.less l3
    refine one2 ho S3 e4 (fun x q cls d H' io' px => hex x q cls d σ H' io' ⟨px.1, T3.trans px.2.1, px.2.2⟩) fun x vx s4 H4 io4 e5 p4 => ?_
    obtain ⟨S4, T4, R4⟩ := p4.settled
    refine one2 hi S4 e5 (fun x q cls d H' io' px => hex x q cls d σ H' io' ⟨px.1, (T3.trans T4).trans px.2.1, px.2.2⟩) fun i vi s5 H5 io5 e6 p5 => ?_
    obtain ⟨S5, T5, R5⟩ := p5.settled
    rcases bnd_some e6 with ⟨z, e7, _⟩ | ⟨wi, s6, e7, e8⟩
    · obtain ⟨_, _, _, _, q, _⟩ := freeze_ok S5 R5 e7
      cases q
    · obtain ⟨_, l6, S6, w6, q, R6⟩ := freeze_ok S5 R5 e7
      cases q
      have T6 := ((T3.trans T4).trans T5).less l6
      have Rx := froze_pers l6 (R4.pers T5.p)
      have Ry := ((R3.pers T4.p).pers T5.p).pers (.less l6)
      unfold putSub at e8
      split at e8
      · rename_i c hc
        split at e8
        · rename_i c' hf
          obtain ⟨a, o, rfl, h2, h3, h4, h5⟩ := cell_ok S6 Rx hc
          refine hr io5 _ H5 a o c wi wy vi vy c' _ h2 h4 R6 Ry hf fun o' f' => ?_
          obtain ⟨S7, T7, m7⟩ := h5 c' o' f'
          cases e8
          exact hnx rfl _ _ io5 ⟨S7, T6.trans T7⟩
        · cases e8
      · cases e8
def fSetL : Cell → W → W → Option Cell
  | .lst ws, .int k, w => (ixN ws.length k).map fun j => .lst (ws.set j w)
  | _, _, _ => none
theorem sr_list : SetR K mg rSetL fSetL := by
  intro io M H a o c wi wv vi vv c' Q ha hr hi hv e q
  unfold fSetL at e
  split at e
  · rename_i ws k w
    obtain ⟨j, hj, rfl⟩ := Option.map_eq_some_iff.mp e
    obtain ⟨us, rfl, r⟩ := hr
    cases hi
    exact ⟨a, us, _, j, rfl, rfl, ha, by rw [← r.1]; exact hj, q _ fun {H'} p => ⟨_, rfl, (r.pers p).set (hv.pers p)⟩⟩
  · cases e
def putW {κ : Type} [DecidableEq κ] (kvs : List (κ × W)) (k : κ) (w : W) : List (κ × W) := if (kvs.any fun kv => decide (kv.1 = k)) = true then kvs.map fun kv => if kv.1 = k then (kv.1, w) else kv else kvs ++ [(k, w)]
theorem Rkv.any {κ : Type} [DecidableEq κ] {k : κ} : ∀ {ws : List (κ × W)} {vs : List (κ × V)}, Rkv K mg io M H ws vs → (ws.any fun kv => decide (kv.1 = k)) = (vs.any fun kv => decide (kv.1 = k))
  | [], vs, h => by rw [h.nil_inv]; rfl
  | (k', w) :: ws, vs, h => by
    obtain ⟨v, r, rfl, h1, h2⟩ := h.cons_inv
    simp only [List.any_cons]
    rw [Rkv.any h2]
theorem Rkv.repl {κ : Type} [DecidableEq κ] {k : κ} (hw : Rw K mg io M H w v) : ∀ {ws : List (κ × W)} {vs : List (κ × V)}, Rkv K mg io M H ws vs → Rkv K mg io M H (ws.map fun kv => if kv.1 = k then (kv.1, w) else kv) (vs.map fun kv => if kv.1 = k then (kv.1, v) else kv)
  | [], vs, h => by rw [h.nil_inv]; exact Rkv.nil
  | (k', w') :: ws, vs, h => by
    obtain ⟨u, r, rfl, h1, h2⟩ := h.cons_inv
    simp only [List.map_cons]
    by_cases e : k' = k
    · rw [if_pos e, if_pos e]; exact Rkv.cons hw (Rkv.repl hw h2)
    · rw [if_neg e, if_neg e]; exact Rkv.cons h1 (Rkv.repl hw h2)
theorem Rkv.put {κ : Type} [DecidableEq κ] {k : κ} (hw : Rw K mg io M H w v) {ws : List (κ × W)} {vs : List (κ × V)} (h : Rkv K mg io M H ws vs) : Rkv K mg io M H (putW ws k w) (putK vs k v) := by
  unfold putW putK
  rw [Rkv.any h]
  split
  · exact h.repl hw
  · exact h.append (Rkv.cons hw Rkv.nil)
def fSetD : Cell → W → W → Option Cell
  | .dK kvs, i, w => if kvs.length < sz then (keyOf i).map fun k => .dK (putW kvs k w) else none
  | .dT kvs, i, w => if kvs.length < sz then (tkOf i).map fun k => .dT (putW kvs k w) else none
  | _, _, _ => none
theorem sr_dict : SetR K mg rSetD fSetD := by
  intro io M H a o c wi wv vi vv c' Q ha hr hi hv e q
  unfold fSetD at e
  split at e
  · rename_i kvs
    split at e
    · rename_i hz
      obtain ⟨k, hk, rfl⟩ := Option.map_eq_some_iff.mp e
      obtain ⟨us, rfl, r⟩ := hr
      obtain rfl := Rn.key (.inl hi) hk
      refine ⟨a, _, rfl, DPut.k ha ?_, q _ fun {H'} p => ⟨_, rfl, Rkv.put (hv.pers p) (Rkv.pers p r)⟩⟩
      rw [← r.length, sizeLine_eq]; exact hz
    · cases e
  · rename_i kvs
    split at e
    · rename_i hz
      obtain ⟨k, hk, rfl⟩ := Option.map_eq_some_iff.mp e
      obtain ⟨us, rfl, r⟩ := hr
      obtain ⟨w, ws, rfl, hks⟩ := tk_inv hk
      cases hi with
      | tup h l f =>
        rcases h with ⟨h, _⟩ | ⟨_, rfl⟩
        · have hv2 := Rws.keys ⟨l, f⟩ hks
          subst hv2
          refine ⟨a, _, rfl, DPut.t ha h ?_, q _ fun {H'} p => ⟨_, rfl, Rkv.put (hv.pers p) (Rkv.pers p r)⟩⟩
          rw [← r.length, sizeLine_eq]; exact hz
        · simp at l
    · cases e
  · cases e
/-! ### slices -/
def RefO (K : PySem.W.Frag) (mg : Str → Option Value) (ea : EA) (Wx : WX) (t : TO) (m : Mo (Option Int)) : Prop := ∀ (σ : L2.St) (H : Hp) (io : List Addr) (Fr : Addr → Prop) (s : S), Sim K mg ea io Fr s σ H → ∀ r s', m s = some (r, s') → ∀ Q : Option Int → Hp → Prop,
  (∀ b, r = .ok b → ∀ H' io', PostS K mg ea io Fr s σ H s' σ io' H' → Q b H') → (∀ x, r = .error x → ∀ cls d H' io', PostX K mg ea io Fr s σ H s' σ io' H' x cls d → Wx cls d σ H') → t σ H Q
def mNoPart : Mo (Option Int) := ret none
def toI : RV → Mo (Option Int)
  | .val (.int i) => ret (some i)
  | _ => stk
def mPart (m : Mo RV) : Mo (Option Int) := bnd m toI
theorem ref_noPart : RefO K mg ea Wx tNoPart mNoPart := by
  intro σ H io Fr s S0 r s' e Q hok hex
  cases e
  exact hok _ rfl H io ⟨S0, .refl⟩
theorem ref_part {t : TE} {m : Mo RV} (h : RefE K mg ea Wx t m) : RefO K mg ea Wx (tPart t) (mPart m) := by
  intro σ H io Fr s S0 r s' e Q hok hex
  refine one2 h S0 e hex fun x v s1 H1 io1 e2 px => ?_
  unfold toI at e2
  split at e2
  · rename_i i
    cases e2
    obtain ⟨S1, T1, R1⟩ := px
    cases R1
    exact ⟨i, rfl, hok _ rfl H1 io1 ⟨S1, T1⟩⟩
  · cases e2
def cutW {α : Type} (xs : List α) (lo hi : Option Int) : List α := (xs.drop (HT.sIx xs.length 0 lo)).take (HT.sIx xs.length xs.length hi - HT.sIx xs.length 0 lo)
theorem Rws.cut (h : Rws K mg io M H ws vs) (lo hi : Option Int) : Rws K mg io M H (cutW ws lo hi) (cutV vs lo hi) := by
  unfold cutW cutV
  rw [h.1]
  exact (h.drop _).take _
def fSl : W → Option Int → Option Int → Option OR
  | .lst ws, lo, hi => some (.newl (cutW ws lo hi))
  | .frl ws, lo, hi => some (.newl (cutW ws lo hi))
  | .tup ws, lo, hi => if HT.sIx ws.length 0 lo = 0 ∧ HT.sIx ws.length ws.length hi = ws.length then some (.imm (.tup ws)) else some (.newt (cutW ws lo hi))
  | .str z, lo, hi => if z.length ≤ sz then some (.imm (.str (cutS z lo hi))) else none
  | .byt z, lo, hi => if z.size ≤ sz then some (.imm (.byt (PySem.W.KBy.picked z lo hi))) else none
  | _, _, _ => none
def rSlW (K : PySem.W.Frag) : V → Option Int → Option Int → Hp → VK → Prop := fun x lo hi H Q => rSlL K x lo hi H Q ∨ rSlA K x lo hi H Q ∨ rSlS x lo hi H Q ∨ rSlB x lo hi H Q
theorem sl_any {X : Cx} : SlR X (rSlW X.K) := sl_list.or (sl_tupA.or (sl_str.or sl_byt))
theorem sl_hr {x : W} {vx : V} {lo hi : Option Int} {z : OR} {Q : VK} (rx : Rn K mg io M H x vx) (e : fSl x lo hi = some z) (q : OQ K mg io M H z Q) : rSlW K vx lo hi H Q := by
  unfold fSl at e
  split at e
  · cases e
    obtain ⟨a, vs, rfl, h, r⟩ := rx.lst
    exact .inl ⟨a, vs, rfl, .inl (.inl h), fun p hp => q p _ hp (r.cut lo hi)⟩
  · cases e
    obtain ⟨a, vs, rfl, h, r⟩ := rx.frl
    exact .inl ⟨a, vs, rfl, h, fun p hp => q p _ hp (r.cut lo hi)⟩
  · rename_i ws
    have rt : ∃ a vs, vx = .ref a ∧ SqT K H a vs ∧ Rws K mg io M H ws vs ∧ Rw K mg io M H (.tup ws) vx := by
      rcases rx with h | ⟨c, o, a, e, rfl, ha, hc⟩
      · cases h with
        | tup h l q => exact ⟨_, _, rfl, h.elim (fun z => SqT.of z.1) fun z => .inr z.1, ⟨l, q⟩, .tup h l q⟩
      · cases c <;> cases e
    obtain ⟨a, vs, rfl, h, r, rr⟩ := rt
    refine .inr (.inl ⟨a, vs, rfl, h, fun g => ?_, fun g p hp => ?_⟩)
    · rw [← r.1] at g
      rw [if_pos g] at e
      cases e
      exact q _ rr
    · rw [← r.1] at g
      rw [if_neg g] at e
      cases e
      exact q p _ hp (r.cut lo hi)
  · split at e
    · rename_i hz
      cases e
      obtain rfl := rx.str
      exact .inr (.inr (.inl ⟨_, rfl, sz_le hz, q _ (.str _)⟩))
    · cases e
  · split at e
    · rename_i hz
      cases e
      obtain rfl := rx.byt
      exact .inr (.inr (.inr ⟨_, rfl, hz, q _ (.byt _)⟩))
    · cases e
  · cases e
def mSl (mo : Mo RV) (ml mh : Mo (Option Int)) : Mo RV := bnd mo fun x => bnd ml fun l => bnd mh fun h => bnd (look (settle x)) fun wx => liftO (fSl wx l h)
theorem ref_sl {to : TE} {tl th : TO} {mo : Mo RV} {ml mh : Mo (Option Int)} (ho : RefE K mg ea Wx to mo) (hl : RefO K mg ea Wx tl ml) (hh : RefO K mg ea Wx th mh) : RefE K mg ea Wx (tSl (rSlW K) to tl th) (mSl mo ml mh) := by
  intro σ H io Fr s S0 r0 s' e Q hok hex
  refine one2 ho S0 e hex fun x vx s1 H1 io1 e2 px => ?_
  obtain ⟨S1, T1, R1⟩ := px.settled
  rcases bnd_some e2 with ⟨z, e3, rfl⟩ | ⟨l, s2, e3, e4⟩
  · exact hl σ H1 io1 Fr s1 S1 _ _ e3 _ (fun _ q => by cases q) fun x' q cls d H' io' py => by
      cases q
      exact hex _ rfl cls d H' io' ⟨py.1, T1.trans py.2.1, py.2.2⟩
  · refine hl σ H1 io1 Fr s1 S1 _ _ e3 _ (fun l' q H2 io2 p2 => ?_) (fun _ q => by cases q)
    cases q
    have T2 := T1.trans p2.2
    rcases bnd_some e4 with ⟨z, e5, rfl⟩ | ⟨h, s3, e5, e6⟩
    · exact hh σ H2 io2 Fr s2 p2.1 _ _ e5 _ (fun _ q => by cases q) fun x' q cls d H' io' py => by
        cases q
        exact hex _ rfl cls d H' io' ⟨py.1, T2.trans py.2.1, py.2.2⟩
    · refine hh σ H2 io2 Fr s2 p2.1 _ _ e5 _ (fun h' q H3 io3 p3 => ?_) (fun _ q => by cases q)
      cases q
      have T3 := T2.trans p3.2
      have R3 := (R1.pers p2.2.p).pers p3.2.p
      rcases bnd_some e6 with ⟨z, e7, rfl⟩ | ⟨wx, s4, e7, e8⟩
      · obtain ⟨_, _, q, _⟩ := look_ok p3.1 R3 e7
        cases q
      · obtain ⟨rfl, wx', q, nx⟩ := look_ok p3.1 R3 e7
        cases q
        obtain ⟨rfl, u, hu, rfl⟩ := liftO_some e8
        exact sl_hr nx hu (OQ.post p3.1 T3 fun v H3 io3 px => hok _ rfl v H3 io3 px)
/-! ### truth -/
def truW : W → Option Bool
  | .non => some false
  | .bl b => some b
  | .int i => some (i != 0)
  | .str y => if y.length ≤ sz then some ((y.length : Int) != 0) else none
  | .byt y => if y.size ≤ sz then some ((y.size : Int) != 0) else none
  | .lst ws => some (!ws.isEmpty)
  | .frl ws => some (!ws.isEmpty)
  | .tup ws => some (!ws.isEmpty)
  | _ => none
theorem Rws.emp (h : Rws K mg io M H ws vs) : ws.isEmpty = vs.isEmpty := by
  have := h.1
  cases ws <;> cases vs <;> simp_all
theorem tru_hr {x : W} {vx : V} {b : Bool} (rx : Rn K mg io M H x vx) (e : truW x = some b) : TruV K vx H b := by
  have hs : (sizeLine : Nat) = sz := sizeLine_eq
  cases x with
  | non =>
    cases e
    rcases rx with h | ⟨c, o, a, e, rfl, ha, hc⟩
    · cases h; rfl
    · cases c <;> cases e
  | bl k => cases e; obtain rfl := rx.bl; rfl
  | int i => cases e; obtain rfl := rx.int; rfl
  | str y =>
    obtain rfl := rx.str
    simp only [truW] at e
    split at e
    · rename_i hz
      cases e
      exact ⟨by rw [hs]; exact hz, rfl⟩
    · cases e
  | byt y =>
    obtain rfl := rx.byt
    simp only [truW] at e
    split at e
    · rename_i hz
      cases e
      exact ⟨by rw [hs]; exact hz, rfl⟩
    · cases e
  | lst ws =>
    cases e
    obtain ⟨a, vs, rfl, h, r⟩ := rx.lst
    exact .inl ⟨vs, .inl (.inl h), by rw [r.emp]⟩
  | frl ws =>
    cases e
    obtain ⟨a, vs, rfl, h, r⟩ := rx.frl
    exact .inl ⟨vs, h, by rw [r.emp]⟩
  | tup ws =>
    cases e
    obtain ⟨a, vs, rfl, h, r⟩ := rx.tup
    exact .inr (.inl ⟨vs, h, by rw [r.emp]⟩)
  | _ => cases e
def liftB (z : Option Bool) : Mo Bool := match z with
  | some b => ret b
  | none => stk
theorem liftB_some {z : Option Bool} {r : Except Ex Bool} (h : liftB z s = some (r, s')) : s' = s ∧ ∃ u, z = some u ∧ r = .ok u := by
  cases z with
  | none => cases h
  | some u => cases h; exact ⟨rfl, u, rfl, rfl⟩
def mTru (m : Mo RV) : Mo Bool := bnd m fun x => bnd (look (settle x)) fun w => liftB (truW w)
theorem ref_tru {t : TE} {m : Mo RV} (h : RefE K mg ea Wx t m) : RefT K mg ea Wx (fun σ H Q => t σ H fun x H' => ∃ k, TruV K x H' k ∧ Q k H') (mTru m) := by
  intro σ H io Fr s S0 r0 s' e Q hok hex
  refine one2 h S0 e hex fun x v s1 H1 io1 e2 px => ?_
  obtain ⟨S1, T1, R1⟩ := px.settled
  rcases bnd_some e2 with ⟨z, e5, rfl⟩ | ⟨wx, s3, e5, e6⟩
  · obtain ⟨_, _, q, _⟩ := look_ok S1 R1 e5
    cases q
  · obtain ⟨rfl, wx', q, nx⟩ := look_ok S1 R1 e5
    cases q
    obtain ⟨rfl, u, hu, rfl⟩ := liftB_some e6
    exact ⟨u, tru_hr nx hu, hok _ rfl H1 io1 ⟨S1, T1⟩⟩
/-! ### a op1 b op2 c -/
def mChain (f g : W → W → Option OR) (ma mb mc : Mo RV) : Mo RV := bnd ma fun x => bnd mb fun y => bnd (mB (opM f (settle x) (settle y))) fun k => if k = true then bnd mc fun z => opM g (settle y) (settle z) else ret (.val (.bl false))
theorem ref_chain {X : Cx} {r r' : R2} {f g : W → W → Option OR} (hr : ∀ io M H x y vx vy z Q, Rn K mg io M H x vx → Rn K mg io M H y vy → f x y = some z → OQ K mg io M H z Q → r vx vy H Q)
    (hr' : ∀ io M H x y vx vy z Q, Rn K mg io M H x vx → Rn K mg io M H y vy → g x y = some z → OQ K mg io M H z Q → r' vx vy H Q)
    {ta tb tc : TE} {ma mb mc : Mo RV} (ha : RefE K mg ea Wx ta ma) (hb : RefE K mg ea Wx tb mb) (hc : RefE K mg ea Wx tc mc) : RefE K mg ea Wx (tChain r r' ta tb tc) (mChain f g ma mb mc) := by
  intro σ H io Fr s S0 r0 s' e Q hok hex
  refine one2 ha S0 e hex fun x vx s1 H1 io1 e2 px => ?_
  obtain ⟨S1, T1, R1⟩ := px.settled
  refine one2 hb S1 e2 (fun x q cls d H' io' px => hex x q cls d H' io' ⟨px.1, T1.trans px.2.1, px.2.2⟩) fun y vy s2 H2 io2 e3 py => ?_
  obtain ⟨S2, T2', R2⟩ := py.settled
  have T2 := T1.trans T2'
  have R1' := R1.pers T2'.p
  rcases bnd_some e3 with ⟨z, e4, rfl⟩ | ⟨k, s3, e4, e5⟩
  · rcases bnd_some e4 with ⟨z', e6, _⟩ | ⟨q, s4, e6, e7⟩
    · unfold opM at e6
      rcases bnd_some e6 with ⟨z, e8, _⟩ | ⟨wx, s5, e8, e9⟩
      · obtain ⟨_, _, q, _⟩ := look_ok S2 R1' e8
        cases q
      · obtain ⟨rfl, wx', q, nx⟩ := look_ok S2 R1' e8
        cases q
        rcases bnd_some e9 with ⟨z, e10, _⟩ | ⟨wy, s6, e10, e11⟩
        · obtain ⟨_, _, q, _⟩ := look_ok S2 R2 e10
          cases q
        · obtain ⟨rfl, wy', q, ny⟩ := look_ok S2 R2 e10
          cases q
          obtain ⟨_, u, _, h⟩ := liftO_some e11
          cases h
    · obtain ⟨_, b, _, h⟩ := toB_some e7
      cases h
  · rcases bnd_some e4 with ⟨z', e6, h⟩ | ⟨q, s4, e6, e7⟩
    · cases h
    · obtain ⟨rfl, b, rfl, hb'⟩ := toB_some e7
      cases hb'
      unfold opM at e6
      rcases bnd_some e6 with ⟨z, e8, h⟩ | ⟨wx, s5, e8, e9⟩
      · cases h
      · obtain ⟨rfl, wx', q, nx⟩ := look_ok S2 R1' e8
        cases q
        rcases bnd_some e9 with ⟨z, e10, h⟩ | ⟨wy, s6, e10, e11⟩
        · cases h
        · obtain ⟨rfl, wy', q, ny⟩ := look_ok S2 R2 e10
          cases q
          obtain ⟨rfl, u, hu, h⟩ := liftO_some e11
          cases u with
          | imm w =>
            cases h
            refine hr _ _ _ _ _ _ _ _ _ nx ny hu fun v rv => ?_
            cases rv
            refine ⟨k, rfl, ?_⟩
            cases k with
            | false =>
              rw [if_neg (by simp)]
              cases e5
              exact hok _ rfl _ _ _ ⟨S2, T2, .bl _⟩
            | true =>
              rw [if_pos rfl]
              refine one2 hc S2 e5 (fun x q cls d H' io' px => hex x q cls d H' io' ⟨px.1, T2.trans px.2.1, px.2.2⟩) fun z vz s7 H7 io7 e12 pz => ?_
              obtain ⟨S7, T7', R7⟩ := pz.settled
              have T7 := T2.trans T7'
              have R2' := R2.pers T7'.p
              unfold opM at e12
              rcases bnd_some e12 with ⟨z, e13, rfl⟩ | ⟨wy2, s8, e13, e14⟩
              · obtain ⟨_, _, q, _⟩ := look_ok S7 R2' e13
                cases q
              · obtain ⟨rfl, wy', q, ny2⟩ := look_ok S7 R2' e13
                cases q
                rcases bnd_some e14 with ⟨z, e15, rfl⟩ | ⟨wz, s9, e15, e16⟩
                · obtain ⟨_, _, q, _⟩ := look_ok S7 R7 e15
                  cases q
                · obtain ⟨rfl, wz', q, nz⟩ := look_ok S7 R7 e15
                  cases q
                  obtain ⟨rfl, u2, hu2, rfl⟩ := liftO_some e16
                  exact hr' _ _ _ _ _ _ _ _ _ ny2 nz hu2 (OQ.post S7 T7 fun v H3 io3 px => hok _ rfl v H3 io3 px)
          | newl ws => cases h
          | newt ws => cases h
/-! ### name op= e -/
def IpM (X : Cx) (op : Operator) (f : W → W → Option OR) : Prop :=
  ∃ r : TIp, PIp X op r ∧ ∀ io M H x y vx vy z Q, Rn X.K X.mg io M H x vx → Rn X.K X.mg io M H y vy → f x y = some z → OQ X.K X.mg io M H z Q → r vx vy H Q
def mAug (i : Nat) (f : W → W → Option OR) (me : Mo RV) : Mo Fl := mAsg i (bnd (mName i) fun x => bnd me fun y => opM f x (settle y))
theorem ref_aug (X : Cx) {i : Nat} {f : W → W → Option OR} {te : TE} {me : Mo RV} {r : TIp} (hr : ∀ io M H x y vx vy z Q, Rn K mg io M H x vx → Rn K mg io M H y vy → f x y = some z → OQ K mg io M H z Q → r vx vy H Q) (he : RefE K mg ea Wx te me) :
    RefS K mg ea Wx (tAug i te r) (mAug i f me) := by
  have h1 : RefE K mg ea Wx (tOp r (tVar i) te) (bnd (mName i) fun x => bnd me fun y => opM f x (settle y)) := by
    have h := ref_op (X := X) (g := fun a _ => pure a) hr (ref_name (K := K) (mg := mg) (ea := ea) (Wx := Wx) i) he
    intro σ H io Fr s S0 r0 s' e
    refine h σ H io Fr s S0 r0 s' ?_
    rw [← e]
    unfold mBin bnd mName
    cases q : s.r[i]? with
    | none => rfl
    | some u => cases u <;> rfl
  exact ref_asg i h1
end
section
variable {X : Cx} {ea : EA} {Wx : WX} {e o i a b c : Expr} {mo mv mi ma mb mc : Mo RV} {pos p2 tpos : Pos} {r : TSet} {f g : W → W → Option OR}
theorem pes_sub {fc : Cell → W → W → Option Cell} (hs : PSet X r) (hf : SetR X.K X.mg r fc) (hv : Pee X ea Wx e mv) (ho : Pee X ea Wx o mo) (hi : Pee X ea Wx i mi)
    (ha : ∀ v, assign (.Subscript o i tpos) X.env v = (do
      let ov ← holding [v] (eval o X.env)
      let iv ← holding [v, ov] (eval i X.env)
      standAt tpos
      holding [v, ov, iv] (setItem ov iv v)
      release [v, ov, iv] []) := by intro _; rfl) (hss : swapsWithSole [.Subscript o i tpos] e pos.line X.env = pure false := by rfl) (hw : swappedStores [.Subscript o i tpos] e X.env = pure none := by rfl)
    (h1 : (assignEach [.Subscript o i tpos] X.env).map (·.2) = [assign (.Subscript o i tpos) X.env] := by rfl) : Pes X ea Wx (.Assign [.Subscript o i tpos] e pos) (mSub fc mv mo mi) := by
  obtain ⟨t, q, rr⟩ := ho.ex
  obtain ⟨t', q', rr'⟩ := hi.ex
  obtain ⟨t2, q2, rr2⟩ := hv.ex
  exact ⟨_, ps_asg q2 (pg_sub q q' hs ha) hss hw h1, ref_sub hf rr2 rr rr'⟩
def fSet : Cell → W → W → Option Cell := orf3 fSetL fSetD
theorem set_any (hu : X.A.units + 1 < cLine) : PSet X (fun o i v H Q => rSetL o i v H Q ∨ rSetD o i v H Q) := PSet.or set_list (set_dict hu)
theorem sr_any : SetR X.K X.mg (fun o i v H Q => rSetL o i v H Q ∨ rSetD o i v H Q) fSet := sr_list.or sr_dict
structure Peo (X : Cx) (ea : EA) (Wx : WX) (e : Option Expr) (m : Mo (Option Int)) : Prop where
  ex : ∃ t, PO X e t ∧ RefO X.K X.mg ea Wx t m
theorem peo_none : Peo X ea Wx none mNoPart := ⟨_, po_none, ref_noPart⟩
theorem peo_some (h : Pee X ea Wx e mv) : Peo X ea Wx (some e) (mPart mv) := let ⟨_, q, r⟩ := h.ex; ⟨_, po_some q, ref_part r⟩
theorem pee_sl {lo hi : Option Expr} {ml mh : Mo (Option Int)} (ho : Pee X ea Wx o mo) (hl : Peo X ea Wx lo ml) (hh : Peo X ea Wx hi mh) : Pee X ea Wx (.Subscript o (.Slice lo hi none p2) pos) (mSl mo ml mh) := by
  obtain ⟨t, q, rr⟩ := ho.ex
  obtain ⟨t', q', rr'⟩ := hl.ex
  obtain ⟨t2, q2, rr2⟩ := hh.ex
  exact ⟨_, pe_slice sl_any q q' q2, ref_sl rr rr' rr2⟩
theorem pet_tru (ha : Pee X ea Wx a ma) (he : ∀ whole, isTrue a X.env whole = (do let v ← whole; standAt a.pos; holding [v] (truthy v)) := by intro _; rfl) : Pet X ea Wx a (mTru ma) :=
  let ⟨_, q, r⟩ := ha.ex; ⟨_, pt_truth q he, ref_tru r⟩
theorem pee_chain {op op' : CmpOp} (ho : OpM X (compareOp op) f) (ho' : OpM X (compareOp op') g) (ha : Pee X ea Wx a ma) (hb : Pee X ea Wx b mb) (hc : Pee X ea Wx c mc)
    (hm : lastMarks [op, op'] [b, c] = false := by with_unfolding_all rfl) : Pee X ea Wx (.Compare a [op, op'] [b, c] pos) (mChain f g ma mb mc) := by
  obtain ⟨r1, p1, w1⟩ := ho
  obtain ⟨r2, p2, w2⟩ := ho'
  obtain ⟨t, q, rr⟩ := ha.ex
  obtain ⟨t', q', rr'⟩ := hb.ex
  obtain ⟨t2, q2, rr2⟩ := hc.ex
  exact ⟨_, pe_chain p1 p2 q q' q2 hm, ref_chain (X := X) w1 w2 rr rr' rr2⟩
theorem pet_chain {op op' : CmpOp} (ho : OpM X (compareOp op) f) (ho' : OpM X (compareOp op') g) (ha : Pee X ea Wx a ma) (hb : Pee X ea Wx b mb) (hc : Pee X ea Wx c mc)
    (hm : lastMarks [op, op'] [b, c] = false := by with_unfolding_all rfl) : Pet X ea Wx (.Compare a [op, op'] [b, c] pos) (mB (mChain f g ma mb mc)) := by
  obtain ⟨r1, p1, w1⟩ := ho
  obtain ⟨r2, p2, w2⟩ := ho'
  obtain ⟨t, q, rr⟩ := ha.ex
  obtain ⟨t', q', rr'⟩ := hb.ex
  obtain ⟨t2, q2, rr2⟩ := hc.ex
  exact ⟨_, pt_chain p1 p2 q q' q2 hm, ref_test (ref_chain (X := X) w1 w2 rr rr' rr2)⟩
theorem pes_aug {op : Operator} (i : Nat) {x : Str} {pos' : Pos} (hN : X.N.Nodup) (ho : IpM X op f) (he : Pee X ea Wx e mv) (hi : X.N[i]? = some x := by rfl) (hx : Loc X.env.scope x := by first | exact Or.inl rfl | exact Or.inr rfl)
    (hf : X.fn x = true ∨ X.env.scope.names.lookup x = some .local := by first | exact .inl rfl | exact .inr rfl) : Pes X ea Wx (.AugAssign (.Name x pos') op e pos) (mAug i f mv) := by
  obtain ⟨r, p, w⟩ := ho
  obtain ⟨t, q, rr⟩ := he.ex
  exact ⟨_, ps_aug hN hi hx q p hf, ref_aug X w rr⟩
end
end Z

set_option Elab.async false
set_option linter.all false
set_option maxRecDepth 100000
/-! Z16: dead code, isinstance, e.f, calls in suites. -/
namespace Z
open PySem PySem.Spec PyProof.Rows L2
section
variable {X : Cx} {ea : EA} {Wx : WX} {e : Expr} {es : List Expr} {st : Stmt} {sts : List Stmt}
/-- code that is not reached -/
theorem pee_dead : Pee X ea Wx e stk := ⟨fun _ _ _ => False, ⟨fun _ _ _ _ _ _ h => h.elim⟩, fun σ H io Fr s S0 r s' e => by cases e⟩
theorem pet_dead : Pet X ea Wx e stk := ⟨fun _ _ _ => False, ⟨fun _ _ _ _ _ _ h => h.elim⟩, fun σ H io Fr s S0 r s' e => by cases e⟩
theorem pes_dead : Pes X ea Wx st stk := ⟨fun _ _ _ => False, ⟨fun _ _ _ _ _ _ h => h.elim⟩, fun σ H io Fr s S0 r s' e => by cases e⟩
theorem pess_dead : Pess X ea Wx sts stk := ⟨fun _ _ _ => False, ⟨fun _ _ _ _ _ _ h => h.elim⟩, fun σ H io Fr s S0 r s' e => by cases e⟩
end
/-! ### types -/
inductive CT where
  | ty (n : String)
  | own (nm : Str)
deriving DecidableEq
def CT.Is (mg : Str → Option Value) : CT → Value → Prop
  | .ty n, v => v = .type n
  | .own nm, v => ∃ C, mg nm = some (.ref C) ∧ v = .ref C
def tyOfW : W → Option CT
  | .non => some (.ty "NoneType")
  | .bl _ => some (.ty "bool")
  | .int _ => some (.ty "int")
  | .str _ => some (.ty "str")
  | .byt _ => some (.ty "bytes")
  | .tup _ => some (.ty "tuple")
  | .lst _ => some (.ty "list")
  | .frl _ => some (.ty "list")
  | .dK _ => some (.ty "dict")
  | .dT _ => some (.ty "dict")
  | .dF _ => some (.ty "dict")
  | .obj nm _ => some (.own nm)
  | .slt _ _ => none
  | .ref _ => none
/-- TyX, with dicts by tuples in a lock -/
inductive TyY (K : PySem.W.Frag) (H : Hp) : V → Value → Prop where
  | base {x : V} {t : Value} (h : TyX K H x t) : TyY K H x t
  | fT {a : Addr} {o : Obj} {kvs : List (List Key × V)} (e : H a = some (.frz o (.dT kvs))) : TyY K H (.ref a) (.type "dict")
theorem kit_ofY {X : Cx} {pins : List (Addr × Obj)} {σ : L2.St} {H : Hp} {s : Shared} {x : V} {u t : Value} (I : Inv X pins σ H s) (rx : RelV x u) (ty : TyY X.K H x t) : ∃ P : Heap → Prop, PySem.W.KitX X.K u t P ∧ P s.heap ∧ u ≠ .builtin "__main__.__loader__#opaque" := by
  rcases ty with h | e
  · exact kit_of I rx h
  · rename_i a ob kvs
    cases rx
    obtain ⟨_, _, _, _, _, o, _, _, here, exact', _⟩ := (show ObjOk X.prog X.w H s.heap a (.frz ob (.dT kvs)) from I.hok a _ e)
    exact ⟨_, PySem.W.kitx_dict, ⟨o, here, exact'.1⟩, nofun⟩
def rIsY (K : PySem.W.Frag) (u : Value) : List V → Hp → VK → Prop := fun xs H Q => ∃ (x c : V) (t : Value) (b : Bool), xs = [x, c] ∧ ClsV c u ∧ TyY K H x t ∧ PySem.W.kitOne K t u = some b ∧ Q (.bl b) H
theorem call_isY {X : Cx} {u : Value} : CallR X (.builtin "isinstance") (rIsY X.K u) := by
  rintro pins s σ H _ _ Q I r ⟨x, c, t, b, rfl, k, ty, e, q⟩
  obtain ⟨v, k2, rfl, rv, rk⟩ := vals2 r
  cases k.eq rk
  exact let ⟨_, Z, p, no⟩ := kit_ofY I rv ty; PySem.W.kia_one Z I.kIn p e no fun tk => ⟨_, H, I.tok tk, show RelV (.bl b) _ from rfl, q⟩
section
variable {K : PySem.W.Frag} {mg : Str → Option Value} {ea : EA} {io io' : List Addr} {Fr Fr' : Addr → Prop} {s s' s2 : S} {σ σ' : L2.St} {H H' : Hp} {w : W} {v : V} {c c' : Cell} {o o' : HO} {a p C : Addr} {ws : List W} {vs : List V} {M M' : Addr → Prop} {Wx : WX}
theorem Rn.ty {ct : CT} (h : Rn K mg io M H w v) (e : tyOfW w = some ct) (hF : ∀ nm, ct = .own nm → ∃ C, mg nm = some (.ref C) ∧ C8.InsC K C) : ∃ t, ct.Is mg t ∧ TyY K H v t := by
  cases w with
  | non =>
    cases e
    rcases h with h | ⟨c, o, a, e, rfl, ha, hc⟩
    · cases h; exact ⟨_, rfl, .base (.base .non)⟩
    · cases c <;> cases e
  | bl b => cases e; obtain rfl := h.bl; exact ⟨_, rfl, .base (.base (.bl b))⟩
  | int b => cases e; obtain rfl := h.int; exact ⟨_, rfl, .base (.base (.int b))⟩
  | str b => cases e; obtain rfl := h.str; exact ⟨_, rfl, .base (.base (.str b))⟩
  | byt b => cases e; obtain rfl := h.byt; exact ⟨_, rfl, .base (.byt b)⟩
  | tup ws =>
    cases e
    rcases h with h | ⟨c, o, a, e, rfl, ha, hc⟩
    · cases h with
      | tup h l q =>
        rcases h with ⟨h, _⟩ | ⟨⟨o, its, n, k1, k2, _⟩, _⟩
        · exact ⟨_, rfl, .base (.base (.tup h))⟩
        · exact ⟨_, rfl, .base (.kTuple k1 k2)⟩
    · cases c <;> cases e
  | lst ws =>
    cases e
    obtain ⟨a, vs, rfl, h, r⟩ := h.lst
    exact ⟨_, rfl, .base (.base (.lst h))⟩
  | frl ws =>
    cases e
    rcases h with h | ⟨c, o, a, e, rfl, ha, hc⟩
    · cases h with
      | frl h l q =>
        rcases h with ⟨h, _⟩ | ⟨o, its, n, k1, k2, _⟩
        · rcases h with h | ⟨oo, h⟩
          · exact ⟨_, rfl, .base (.base (.lst h))⟩
          · exact ⟨_, rfl, .base (.base (.frz h))⟩
        · exact ⟨_, rfl, .base (.kList k1 k2)⟩
    · cases c <;> cases e
  | dK kvs =>
    cases e
    rcases h with h | ⟨c, o, a, e, rfl, ha, hc⟩
    · cases h with
      | dK h l q r =>
        rcases h with h | ⟨oo, h⟩
        · exact ⟨_, rfl, .base (.base (.dK h))⟩
        · exact ⟨_, rfl, .base (.fDict h)⟩
    · cases c <;> cases e
      obtain ⟨vs, rfl, _⟩ := hc
      exact ⟨_, rfl, .base (.base (.dK ha))⟩
  | dT kvs =>
    cases e
    rcases h with h | ⟨c, o, a, e, rfl, ha, hc⟩
    · cases h with
      | dT h l q r =>
        rcases h with h | ⟨oo, h⟩
        · exact ⟨_, rfl, .base (.base (.dT h))⟩
        · exact ⟨_, rfl, .fT h⟩
    · cases c <;> cases e
      obtain ⟨vs, rfl, _⟩ := hc
      exact ⟨_, rfl, .base (.base (.dT ha))⟩
  | dF kvs =>
    cases e
    rcases h with h | ⟨c, o, a, e, rfl, ha, hc⟩
    · cases h with
      | dF h l q r => exact ⟨_, rfl, .fT h⟩
    · cases c <;> cases e
  | obj nm fs =>
    cases e
    obtain ⟨C, hm, ic⟩ := hF nm rfl
    obtain ⟨a, C', dx, vs, rfl, hm', ha, r⟩ := h.obj
    rw [hm] at hm'
    cases hm'
    exact ⟨_, ⟨C, hm, rfl⟩, .base (.base (.ins ha ic.cl ic.ha ic.hn ic.htk ic.hm))⟩
  | slt nm ws => cases e
  | ref n => cases e
def tabAt {α : Type} : List (CT × α) → CT → Option α
  | [], _ => none
  | (c, b) :: r, d => if c = d then some b else tabAt r d
/-- the answers that isinstance gives for the class u -/
structure IsTab (K : PySem.W.Frag) (mg : Str → Option Value) (u : Value) (tab : List (CT × Bool)) : Prop where
  at' : ∀ c b, tabAt tab c = some b → (∀ t, c.Is mg t → PySem.W.kitOne K t u = some b) ∧ ∀ nm, c = .own nm → ∃ C, mg nm = some (.ref C) ∧ C8.InsC K C
theorem IsTab.nil {u : Value} : IsTab K mg u [] := ⟨fun c b h => by cases h⟩
theorem IsTab.ty {u : Value} {tab : List (CT × Bool)} {n : String} {b : Bool} (h : PySem.W.kitOne K (.type n) u = some b) (r : IsTab K mg u tab) : IsTab K mg u ((.ty n, b) :: tab) := ⟨fun c b' e => by
  unfold tabAt at e
  split at e
  · rename_i hc
    subst hc
    cases e
    exact ⟨fun t ht => by cases ht; exact h, fun nm q => by cases q⟩
  · exact r.at' c b' e⟩
theorem IsTab.own {u : Value} {tab : List (CT × Bool)} {nm : Str} {b : Bool} (hm : mg nm = some (.ref C)) (ic : C8.InsC K C) (h : PySem.W.kitOne K (.ref C) u = some b) (r : IsTab K mg u tab) : IsTab K mg u ((.own nm, b) :: tab) := ⟨fun c b' e => by
  unfold tabAt at e
  split at e
  · rename_i hc
    subst hc
    cases e
    exact ⟨fun t ht => by obtain ⟨D, h1, rfl⟩ := ht; rw [hm] at h1; cases h1; exact h, fun nm' q => by cases q; exact ⟨C, hm, ic⟩⟩
  · exact r.at' c b' e⟩
def mIs (tab : List (CT × Bool)) (m : Mo RV) : Mo RV := bnd m fun x => bnd (look (settle x)) fun w => liftO ((tyOfW w).bind fun c => (tabAt tab c).map fun b => .imm (.bl b))
theorem ref_is {u : Value} {cv : V} {tab : List (CT × Bool)} (T : IsTab K mg u tab) (hc : ClsV cv u) {t : TE} {m : Mo RV} (h : RefE K mg ea Wx t m) : RefE K mg ea Wx (fun σ H Q => (tCons t (tCons (tC cv) tNil)) σ H fun xs H1 => rIsY K u xs H1 Q) (mIs tab m) := by
  intro σ H io Fr s S0 r0 s' e Q hok hex
  refine one2 h S0 e hex fun x v s1 H1 io1 e2 px => ?_
  obtain ⟨S1, T1, R1⟩ := px.settled
  rcases bnd_some e2 with ⟨z, e5, rfl⟩ | ⟨wx, s3, e5, e6⟩
  · obtain ⟨_, _, q, _⟩ := look_ok S1 R1 e5
    cases q
  · obtain ⟨rfl, wx', q, nx⟩ := look_ok S1 R1 e5
    cases q
    obtain ⟨rfl, z, hu, rfl⟩ := liftO_some e6
    obtain ⟨ct, h1, h2⟩ := Option.bind_eq_some_iff.mp hu
    obtain ⟨b, h3, rfl⟩ := Option.map_eq_some_iff.mp h2
    obtain ⟨k1, k2⟩ := T.at' ct b h3
    obtain ⟨t, ht, ty⟩ := nx.ty h1 k2
    exact ⟨v, cv, t, b, rfl, hc, ty, k1 t ht, hok _ rfl _ _ _ ⟨S1, T1, .bl b⟩⟩
/-! ### the exception of a suite -/
def mXf (nms : List Str) (i : Nat) (f : Str) : Mo RV := fun s => match s.r[i]? with
  | some (.exc x) => if x.nm ∈ nms then (match x.fs.lookup f with
    | some w => some (.ok (.val w), s)
    | none => none) else none
  | _ => none
def mIsX (tab : List (CT × Bool)) (i : Nat) : Mo RV := fun s => match s.r[i]? with
  | some (.exc x) => (match tabAt tab (.own x.nm) with
    | some b => some (.ok (.val (.bl b)), s)
    | none => none)
  | _ => none
/-- the classes of which one is caught -/
def XfN (K : PySem.W.Frag) (mg : Str → Option Value) (nms : List Str) (f : Str) : Prop := ∀ nm ∈ nms, ∃ C, mg nm = some (.ref C) ∧ XfC K C ∧ PySem.W.findIn K (.ref C) f = some none
theorem XfN.nil {f : Str} : XfN K mg [] f := fun nm h => by cases h
theorem XfN.cons {f nm : Str} {nms : List Str} (hm : mg nm = some (.ref C)) (h : XfC K C) (hn : PySem.W.findIn K (.ref C) f = some none) (r : XfN K mg nms f) : XfN K mg (nm :: nms) f := fun n hh => by
  rcases List.mem_cons.mp hh with rfl | q
  · exact ⟨C, hm, h, hn⟩
  · exact r n q
/-- what isinstance asks of caught errors -/
structure IsTabX (K : PySem.W.Frag) (mg : Str → Option Value) (u : Value) (tab : List (CT × Bool)) : Prop where
  at' : ∀ nm b, tabAt tab (.own nm) = some b → ∃ C, mg nm = some (.ref C) ∧ ExcC K C ∧ PySem.W.kitOne K (.ref C) u = some b
theorem IsTabX.nil {u : Value} : IsTabX K mg u [] := ⟨fun c b h => by cases h⟩
theorem IsTabX.own {u : Value} {tab : List (CT × Bool)} {nm : Str} {b : Bool} (hm : mg nm = some (.ref C)) (ic : ExcC K C) (h : PySem.W.kitOne K (.ref C) u = some b) (r : IsTabX K mg u tab) : IsTabX K mg u ((.own nm, b) :: tab) := ⟨fun c b' e => by
  unfold tabAt at e
  split at e
  · rename_i hc
    cases hc
    cases e
    exact ⟨C, hm, ic, h⟩
  · exact r.at' c b' e⟩
end
def rIsX (K : PySem.W.Frag) (a : Addr) (cls : Value) (d : Option Addr) (u : Value) : List V → Hp → VK → Prop := fun xs H Q => ∃ (c : V) (C : Addr) (b : Bool), xs = [.ref a, c] ∧ ClsV c u ∧ cls = .ref C ∧ ExcC K C ∧ PySem.W.kitOne K (.ref C) u = some b ∧ (d = none ∨ ∃ dd vs, d = some dd ∧ H dd = some (.xd vs)) ∧ Q (.bl b) H
/-- the exception that is handled, as an instance -/
theorem flying_inst {X : Cx} {a : Addr} {D : Addr} {d : Option Addr} {oe : Obj} {pn pins : List (Addr × Obj)} {σ : L2.St} {H : Hp} {s : Shared} (hz : Zc (.ref D) d oe) (hf : ∃ vs, oe.data = .fields vs) (I : Inv (X.suite a ((a, oe) :: pn)) pins σ H s) (hd : d = none ∨ ∃ dd vs, d = some dd ∧ H dd = some (.xd vs)) :
    ∃ od, PySem.W.InstAt s.heap a oe D od := by
  have here := (I.pin (a, oe) (List.mem_append_left _ (List.mem_cons_self ..))).1
  have plain : PySem.W.notCls oe = true := by
    obtain ⟨_, e⟩ := hf
    unfold PySem.W.notCls
    rw [e]
  rcases hd with rfl | ⟨dd, us, rfl, e⟩
  · exact ⟨none, here, hz.1, plain, by rw [hz.2]; trivial⟩
  · have ns := (show ObjOk X.prog X.w H s.heap dd (.xd us) from I.hok dd _ e)
    exact let ⟨_, n1, _⟩ := ns; let ⟨o, n2, _⟩ := lookIn_ns n1; ⟨some o, here, hz.1, plain, by rw [hz.2]; exact n2⟩
theorem call_isX {X : Cx} {a : Addr} {cls : Value} {d : Option Addr} {oe : Obj} {pn : List (Addr × Obj)} {u : Value} (hz : Zc cls d oe) (hf : ∃ vs, oe.data = .fields vs) : CallR (X.suite a ((a, oe) :: pn)) (.builtin "isinstance") (rIsX X.K a cls d u) := by
  rintro pins s σ H _ _ Q I r ⟨c, D, b, rfl, cv, rfl, C, e, hd, q⟩
  obtain ⟨v, k2, rfl, rv, rk⟩ := vals2 r
  cases rv
  cases cv.eq rk
  obtain ⟨od, J⟩ := flying_inst hz hf I hd
  have known : (PySem.W.clsIn X.K D).isSome = true := by
    obtain ⟨_, z, _⟩ := PySem.W.any_some C.hd
    simp [z]
  exact PySem.W.kia_one (PySem.W.kitx_exc (od := od) known C.hg C.hk C.hs C.ha C.hn C.ht C.hm) I.kIn J e nofun fun tk => ⟨_, H, I.kept (t' := tk) fun _ _ z => z, show RelV (.bl b) _ from rfl, q⟩
section
variable {X : Cx} {ea : EA} {Wx : WX} {e : Expr} {es : List Expr} {m : Mo RV} {u : Value} {cv : V} {tab : List (CT × Bool)} {p p2 pos : Pos} {cn : Str}
theorem pee_is (T : IsTab X.K X.mg u tab) (hc : ClsV cv u) (hn : ∀ p, PE X (.Name cn p) (tC cv)) (hm : X.mg "isinstance" = none) (he : Pee X ea Wx e m) (hg : Gl X "isinstance" := by rfl) (hv : bootBuiltins "isinstance" = some (.builtin "isinstance") := by decide +kernel)
    (hst : starEach [e, .Name cn p2] X.env = (false, eval e X.env) :: starEach [.Name cn p2] X.env := by rfl) (hpl : (backTo pos (starEach [.Name cn p2] X.env)).any (·.1) = false := by rfl)
    (hs2 : starEach [.Name cn p2] X.env = (false, eval (.Name cn p2) X.env) :: starEach [] X.env := by rfl) : Pee X ea Wx (.Call (.Name "isinstance" p) [e, .Name cn p2] [] pos) (mIs tab m) := by
  obtain ⟨t, q, r⟩ := he.ex
  exact ⟨_, pe_callB call_isY hg hm hv (pa_cons q (pa_cons (hn p2) pa_nil hs2) hst) (by decide) (by decide) hst hpl, ref_is T hc r⟩
end
end Z

set_option Elab.async false
set_option linter.all false
set_option maxRecDepth 100000
/-! Z17: suites: isinstance(e, C), e.f, calls; raise C('text'). -/
namespace Z
open PySem PySem.Spec PyProof.Rows L2
section
variable {X : Cx} {ea : EA} {Wx : WX} {e : Expr} {es : List Expr} {m : Mo RV} {u : Value} {cv : V} {tab : List (CT × Bool)} {p p1 p2 pos pos' : Pos} {cn en f : Str} {a : Addr} {cls : Value} {d : Option Addr} {oe : Obj} {pn : List (Addr × Obj)} {nms : List Str}
theorem pee_isX (i : Nat) (hz : Zc cls d oe) (hf : ∃ vs, oe.data = .fields vs) (T : IsTabX X.K X.mg u tab) (hc : ClsV cv u) (hn : ∀ p, PE (X.suite a ((a, oe) :: pn)) (.Name cn p) (tC cv)) (hm : X.mg "isinstance" = none)
    (hi : X.N[i]? = some en := by rfl) (hx : Vis X.env.scope en := by first | exact .inl rfl | exact .inr (.inl rfl)) (hdb : (en == ("__debug__" : Str)) = false := by decide) (hcd : (en == ("__classdict__" : Str)) = false := by decide)
    (hg : Gl X "isinstance" := by rfl) (hv : bootBuiltins "isinstance" = some (.builtin "isinstance") := by decide +kernel)
    (hst : starEach [.Name en p1, .Name cn p2] X.env = (false, eval (.Name en p1) X.env) :: starEach [.Name cn p2] X.env := by rfl) (hpl : (backTo pos (starEach [.Name cn p2] X.env)).any (·.1) = false := by rfl)
    (hs2 : starEach [.Name cn p2] X.env = (false, eval (.Name cn p2) X.env) :: starEach [] X.env := by rfl) : Pee (X.suite a ((a, oe) :: pn)) ⟨a, cls, d⟩ Wx (.Call (.Name "isinstance" p) [.Name en p1, .Name cn p2] [] pos) (mIsX tab i) := by
  have pv : PE (X.suite a ((a, oe) :: pn)) (.Name en p1) (tVar i) := pe_var hi hx hdb hcd
  refine ⟨_, pe_callB (X := X.suite a ((a, oe) :: pn)) (call_isX (u := u) hz hf) hg hm hv (pa_cons pv (pa_cons (hn p2) pa_nil hs2) hst) (by decide) (by decide) hst hpl, ?_⟩
  intro σ H io Fr s S0 r0 s' e Q hok hex
  unfold mIsX at e
  split at e
  · rename_i x q
    split at e
    · rename_i b hb
      cases e
      obtain ⟨C, hC, ic, hk⟩ := T.at' _ _ hb
      obtain ⟨h1, D, h2, h3, h4⟩ := S0.exc i x q
      simp only at h1 h3 h4
      rw [show X.mg x.nm = some (.ref C) from hC] at h2
      cases h2
      refine ⟨_, h1, ?_⟩
      refine ⟨cv, C, b, rfl, hc, h3, ic, hk, ?_, hok _ rfl _ _ _ ⟨S0, .refl, .bl b⟩⟩
      rcases h4 with h4 | ⟨dd, vs, k1, k2, _⟩
      · exact .inl h4.2
      · exact .inr ⟨dd, vs, k1, k2⟩
    · cases e
  · cases e
theorem pee_xf (i : Nat) (hz : Zc cls d oe) (hf : ∃ vs, oe.data = .fields vs) (hN : XfN X.K X.mg nms f) (hi : X.N[i]? = some en := by rfl) (hx : Vis X.env.scope en := by first | exact .inl rfl | exact .inr (.inl rfl)) (hdb : (en == ("__debug__" : Str)) = false := by decide) (hcd : (en == ("__classdict__" : Str)) = false := by decide)
    (hb : attributeBase (.Name en p1) f X.env (eval (.Name en p1) X.env) = eval (.Name en p1) X.env := by rfl) : Pee (X.suite a ((a, oe) :: pn)) ⟨a, cls, d⟩ Wx (.Attribute (.Name en p1) f pos) (mXf nms i f) := by
  have pv : PE (X.suite a ((a, oe) :: pn)) (.Name en p1) (tVar i) := pe_var hi hx hdb hcd
  by_cases h : ∃ nm ∈ nms, ∃ C, X.mg nm = some (.ref C) ∧ cls = .ref C
  · obtain ⟨nm, hin, C, hC, rfl⟩ := h
    obtain ⟨C', hC', xf, hno⟩ := hN nm hin
    rw [hC] at hC'
    cases hC'
    refine ⟨_, pe_xf xf hno hz hf pv hb, ?_⟩
    intro σ H io Fr s S0 r0 s' e Q hok hex
    unfold mXf at e
    split at e
    · rename_i x q
      split at e
      · split at e
        · rename_i w hw
          cases e
          obtain ⟨h1, D, h2, h3, h4⟩ := S0.exc i x q
          simp only at h1 h3 h4
          rcases h4 with ⟨h4, _⟩ | ⟨dd, vs, k1, k2, k3, k4⟩
          · rw [h4] at hw; cases hw
          · obtain ⟨v, l1, l2⟩ := Rkv.lookup (vs := vs) k4 hw
            exact ⟨_, h1, rfl, rfl, dd, vs, v, k1, k2, l1, hok _ rfl v _ _ ⟨S0, .refl, l2⟩⟩
        · cases e
      · cases e
    · cases e
  · refine ⟨fun _ _ _ => False, ⟨fun _ _ _ _ _ _ h => h.elim⟩, ?_⟩
    intro σ H io Fr s S0 r0 s' e Q hok hex
    unfold mXf at e
    split at e
    · rename_i x q
      split at e
      · rename_i hin
        obtain ⟨h1, D, h2, h3, h4⟩ := S0.exc i x q
        exact h ⟨x.nm, hin, D, h2, h3⟩
      · cases e
    · cases e
end
/-! ### defs that may be called in a suite -/
/-- the state at the start of a body -/
abbrev Entered (qual : Str) (scope : Scope) (f : Addr) (cd : Value) (ps : List Str) (us : List Value) (s s1 : Shared) : Prop :=
  let kinds := (envOfC qual scope s.heap.objs.size f cd).kindOf
  InCallC s s.heap.objs.size (bindL kinds (ps.zip us) fun _ => none) (cellsFrom (s.heap.objs.size + 1) scope.names []) (bindC kinds (ps.zip us) fun _ => none) s1
theorem inv_startW {CX : CXT} {P : Program} {w : World} {K : PySem.W.Frag} {mg : Str → Option Value} {base : Heap} {N ps : List Str} {qual : Str} {scope : Scope} {f : Addr} {cd : Value} {A : Around} {outer : List Env} {s s1 : Shared} {H : Hp} {E : XK} {us : List Value} {vs : List V}
    (S : FnScope N ps scope) (e0 : Env0 P w K mg base A outer s H) (hl : vs.length = ps.length) (r : Vals vs us)
    (x : Entered qual scope f cd ps us s s1) :
    Inv { cxOf CX P w K mg base N qual scope f cd A outer s H E with calm := false } [] (L2.start N vs) H s1 := by
  -- as if nothing were handled; then the context is put back
  have quiet : Env0 P w K mg base { A with handled := none } outer s H := { e0 with frames := e0.frames }
  have I := inv_start (CX := CX) (E := E) S rfl quiet hl r x
  exact { I with ok := { I.ok with hd := (fun z => nomatch z), frames := Around.frames_deeper e0.frames } }
structure FnW (P : Program) (w : World) (K : PySem.W.Frag) (mg : Str → Option Value) (base : Heap) (k : Nat) (f : Addr) (fd : FuncData) (ps : List Str) (m : Fn) : Prop where
  run : ∀ (A : Around) (outer : List Env) (s : Shared) (H : Hp) (args : Args) (us : List Value) (vs : List V) (Q : VK) (E : XK), L2H.RoomH k A → Env0 P w K mg base A outer s H → BindsTo s fd args (ps.zip us) → Vals vs us → spM K mg ps.length m vs H Q E →
    codeAny (model P w) A (.call (.ref f) args) (CR (L2.CX P w) outer P w H s Q E) s
theorem FnW.toM {P : Program} {w : World} {K : PySem.W.Frag} {mg : Str → Option Value} {base : Heap} {k : Nat} {f : Addr} {fd : FuncData} {ps : List Str} {m : Fn} (F : FnW P w K mg base k f fd ps m) : FnM P w K mg base k f fd ps m :=
  ⟨⟨fun vs H Q E h => h.1, fun A outer s H args us vs Q E hr => F.run A outer s H args us vs Q E (L2H.roomH_of hr)⟩⟩
/-- where a parameter lives -/
theorem par_lives {N ps : List Str} {sc : Scope} {n : Nat} (S : FnScope N ps sc) {us : List Value} : ∀ y ∈ ps.zip us, sc.names.lookup y.1 = some .local ∨ (sc.names.lookup y.1 = some .cell ∧ ((cellsFrom n sc.names []).lookup y.1).isSome = true) := by
  rintro y hy
  exact (S.par y.1 (List.of_mem_zip hy).1).imp id fun q => ⟨q, PySem.W.cellsFrom_some _ _ _ (.inl q)⟩
section
variable {K : PySem.W.Frag} {mg : Str → Option Value}
/-- what a mirror of a def promises, as a promise of its body -/
theorem spM_body {ps N : List Str} {n : Nat} {body : Mo Fl} {t : TS} {vs : List V} {H : Hp} {Q : VK} {E : XK} (hn : N.length = n) (hps : ps.length ≤ n) (rf : RefS K mg ea0 (fun cls d _ H => E cls d H) t body) (sp : spM K mg ps.length (fnM n body) vs H Q E) :
    t { nx := fun _ H' => Q .non H', rt := Q } (L2.start N vs) H := by
  obtain ⟨hl, io, Fr, G, ws, r0, G', g, R, e, hok, hex⟩ := sp
  obtain ⟨S0, mo⟩ := sim_start (ea := ea0) (s := ⟨[], G⟩) hn (by omega) g R
  unfold fnM at e
  have T0 : ∀ {M' : Addr → Prop} {io' : List Addr} {H' : Hp}, Stp io (Ms io Fr ⟨ws.map SV.val ++ List.replicate (n - ws.length) SV.non, G⟩ (L2.start N vs)) Fr H io' M' H' → Stp io (Mu io Fr) Fr H io' M' H' := fun T =>
    (Stp.refl.less fun b z => (mo b).1 z : Stp io (Mu io Fr) Fr H io (Ms io Fr ⟨ws.map SV.val ++ List.replicate (n - ws.length) SV.non, G⟩ (L2.start N vs)) H).trans T
  cases k : body ⟨ws.map SV.val ++ List.replicate (n - ws.length) SV.non, G⟩ with
  | none => rw [k] at e; cases e
  | some pr =>
    obtain ⟨rb, sb⟩ := pr
    rw [k] at e
    refine rf _ _ _ _ _ S0 _ _ k _ (fun q σ' H' io' px => ?_) (fun q σ' H' io' px => ?_) (fun q σ' H' io' px => ?_) (fun f q v H' io' px => ?_) fun xx q cls d σ' H' io' px => ?_
    · subst q
      cases e
      exact hok _ rfl _ _ _ ⟨px.1.g.less (s := sb) fun b z => .inl z, (T0 px.2).less fun b z => z.imp id .inl, .non⟩
    · subst q; cases e
    · subst q; cases e
    · subst q
      cases e
      cases f with
      | val w => exact hok _ rfl v H' io' ⟨px.1, T0 px.2.1, px.2.2⟩
      | own c =>
        obtain ⟨a, o, h1, h2, h3, h4, h5, h6⟩ := px
        exact hok _ rfl v H' io' ⟨a, o, h1, h2, h3, h4, T0 h5, h6⟩
    · subst q
      cases e
      obtain ⟨x1, x2, C, x3, x4, x5⟩ := px
      have le : ∀ b, Mu io' Fr b → Ms io' Fr sb σ' b := fun b z => z.imp id .inl
      refine hex _ rfl cls d H' io' ⟨x1.g.less (s := sb) fun b z => .inl z, (T0 x2).less le, C, x3, x4, x5.imp id ?_⟩
      rintro ⟨dd, us, y1, y2, y3, y4⟩
      exact ⟨dd, us, y1, y2, fun z => y3 (le _ z), y4.pers (.less le)⟩
/-- the end of a body is the end of the call -/
def gives : Flow → Value
  | .ret u => u
  | _ => .none
theorem body_end {X : Cx} {s' : Shared} {Q : VK} {fl : Flow} (hf : X.fs = frs X.outer) (hx : X.ex = []) (h : SP X [] { nx := fun _ H' => Q .non H', rt := Q } fl s') : CE X.outer X.prog X.w X.H_0 X.s_0 Q (gives fl) s' := by
  have un : ∀ {σ : L2.St} {H' : Hp}, Inv X [] σ H' s' → Un (frs X.outer) [] X.H_0 H' X.s_0.heap s'.heap := fun J => by
    rw [← hf, ← hx]
    exact J.base
  cases fl with
  | next => exact let ⟨_, H', J, q⟩ := h; ⟨.non, H', J.os, J.bare, un J, J.hok, rfl, q⟩
  | ret u => exact let ⟨v, _, H', J, rv, q⟩ := h; ⟨v, H', J.os, J.bare, un J, J.hok, rv, q⟩
  | brk => exact let ⟨_, _, _, q⟩ := h; False.elim q
  | cont => exact let ⟨_, _, _, q⟩ := h; False.elim q
theorem defW {P : Program} {w : World} {base : Heap} {x qual : Str} {st : Stmt} {f : Addr} {fd : FuncData} {N ps : List Str} {k n : Nat} {body : Mo Fl} (F : Fun K x qual st f fd) (S : FnScope N ps (defScope st)) (hn : N.length = n)
    (hb : ∀ (cdv : Value) (A : Around) (outer : List Env) (s : Shared) (H : Hp) (E : XK), L2H.RoomH k (A.deeper (envOfC qual (defScope st) s.heap.objs.size f cdv)) →
      Pess { cxOf (L2.CX P w) P w K mg base N qual (defScope st) f cdv A outer s H E with calm := false } ea0 (fun cls d _ H => E cls d H) (defBody st) body) : FnW P w K mg base (k + 1) f fd ps (fnM n body) := by
  constructor
  intro A outer s H args us vs Q E room e0 bt rv sp
  obtain ⟨_, _, _, _, _, _, cdv, _, _, rfl, lk, hcd⟩ := F.ex
  have born : ∀ b o, base.get? b = some o → s.heap.get? b = some o := fun b o e => (e0.bs b o e).1
  have kin := e0.mod.kin.keeps born
  refine codeAny_call_function room.depth (kin _ _ lk) rfl S.co S.gen rfl (PySem.W.codeRec_of kin hcd) (bt _ _ _ _ (wpAny_newFunctionEnv_cells S.kind (par_lives S) ?_))
  rintro _ rfl s1 x
  obtain ⟨t, p, rf⟩ := (hb cdv A outer s H E (room.deeper _)).ex
  have few : ps.length ≤ n := by rw [← hn, ← S.pre]; exact List.length_take_le' _ _
  refine ⟨(e0.mod.nolimit.keeps born).keeps x.toInCall.keep, codeAny_func (wpAny_mono (p.run [] s1 _ H _ (inv_startW S e0 sp.1 rv x) (spM_body hn few rf sp)) (fun fl s' h => ?_) fun _ _ h => h)⟩
  have out := body_end rfl rfl h
  cases fl <;> exact out
end
section
variable {X : Cx} {ea : EA} {Wx : WX} {e : Expr} {es : List Expr} {ms : Mo (List RV)} {m : Fn} {k : Nat} {f : Addr} {fd : FuncData} {ps : List Str} {x : Str} {p pos pos' p2 : Pos}
theorem call_at {CX : CXT} {A1 : Around} {pins : List (Addr × Obj)} {σ : L2.St} {H : Hp} {s : Shared} {Q : VK} {us : List Value} {E : XK} {Ex : Value → Shared → Prop} (I : Inv X pins σ H s) (h : codeAny (model X.prog X.w) A1 (.call (.ref f) ⟨us, []⟩) (CR CX X.stack X.prog X.w H s Q E) s)
    (ex : ∀ e s', CX X.stack H s E e s' → Ex e s') : wpAny (model X.prog X.w) A1 (call (.ref f) us) (EP X pins σ Q) Ex s := by
  refine wpAny_call (codeAny_mono h ?_)
  rintro (er | (_ | _ | _ | u)) s' q
  · exact ex er s' q
  all_goals first | exact q.elim | exact I.after q
/-- no defaults -/
theorem binds0 {pins : List (Addr × Obj)} {σ : L2.St} {H : Hp} {s : Shared} {us : List Value} {n : Nat} (hb : Binds X.K fd ps []) (I : Inv X pins σ H s) (hl : us.length = ps.length) : BindsTo s fd ⟨us, []⟩ (ps.zip us) := by
  simpa using hb s us I.kIn (by simpa using hl)
theorem run_fnW {pins : List (Addr × Obj)} {σ : L2.St} {H : Hp} {s : Shared} {Q : VK} {us : List Value} {vs : List V} {E : XK} (F : FnW X.prog X.w X.K X.mg X.base k f fd ps m) (hr : L2H.RoomH k X.A) (hb : Binds X.K fd ps []) (hx : Passes (L2.CX X.prog X.w) X E)
    (I : Inv X pins σ H s) (r : Vals vs us) (h : spM X.K X.mg ps.length m vs H Q E) : wpAny (model X.prog X.w) X.A (call (.ref f) us) (EP X pins σ Q) X.xe s :=
  call_at I (F.run X.A X.stack s H ⟨us, []⟩ us vs Q E hr I.env0 (binds0 (n := 0) hb I (r.length.symm.trans h.1)) r h) fun e s' q => hx pins σ H s e s' I q
/-- a call that lets nothing out -/
def quiet (m : Mo RV) : Mo RV := fun s => match m s with
  | some (.ok x, s') => some (.ok x, s')
  | _ => none
def mCallW (n : Nat) (m : Fn) (ms : Mo (List RV)) : Mo RV := bnd ms fun xs => bnd (freezeAll xs) fun ws => if ws.length = n then quiet (callG m ws) else stk
theorem pee_callW (F : FnW X.prog X.w X.K X.mg X.base k f fd ps m) (hr : L2H.RoomH k X.A) (hm : X.mg x = some (.ref f)) (hk : PySem.W.keepIn X.K (.ref f) = true) (hb : Binds X.K fd ps []) (ha : Pea X ea Wx (e :: es) ms)
    (hg : Gl X x := by rfl) (hdb : (x == ("__debug__" : Str)) = false := by decide) (he : starEach (e :: es) X.env = (false, eval e X.env) :: starEach es X.env := by rfl) (hpl : (backTo pos (starEach es X.env)).any (·.1) = false := by rfl) :
    Pee X ea Wx (.Call (.Name x p) (e :: es) [] pos) (mCallW ps.length m ms) := by
  obtain ⟨t, q, r⟩ := ha.ex
  refine ⟨fun σ H Q => t σ H fun vs H1 => spM X.K X.mg ps.length m vs H1 Q E0, ⟨fun pins s σ H Q I h => ?_⟩, ?_⟩
  · refine wpAny_Call_Name_kw (ld_glob I hg hm ?_ hdb)
    refine PySem.W.callWith_K (h₀ := X.base) I.ok.mod.kin hk (thn (q.run pos pins s σ H _ I h) fun us s1 ⟨vs, H1, I1, r, q⟩ => ⟨I1.kIn, ?_⟩) he hpl
    exact run_fnW F hr hb passL I1 r q
  · intro σ H io Fr s S0 r0 s' e Q hok hex
    refine arg2 r S0 e hex fun xs vs s1 H1 io1 e2 px R1 => ?_
    rcases bnd_some e2 with ⟨x, e3, rfl⟩ | ⟨ws, s2, e3, e4⟩
    · obtain ⟨_, _, _, _, q, _⟩ := freezeAll_ok px.1 R1 e3
      cases q
    · obtain ⟨_, m2, S2, ws', q, r2⟩ := freezeAll_ok px.1 R1 e3
      cases q
      split at e4
      · rename_i hn
        have T2 := px.2.less m2
        unfold quiet at e4
        split at e4
        · rename_i y s3 k3
          cases e4
          have := spM_use (n := ps.length) (Wx := fun _ _ _ _ => False) (Q := Q) (vs := vs) S2 r2 (r2.1.symm.trans hn) k3 (fun x q v H' io' p => by cases q; exact hok _ rfl v H' io' (p.trans T2)) (fun x q => by cases q)
          exact this
        · cases e4
      · cases e4
theorem pes_raiseT {C : Addr} {t : Str} {j : Nat} {bmB : List Value} {B newId initId : String} (hC : X.mg x = some (.ref C)) (F : ExcBaseFacts B newId initId bmB) (q : PySem.W.excIn X.K C bmB newId = true) (kC : PySem.W.keepIn X.K (.ref C) = true) (r : Raises X (.ref C)) (tk : Takes X Wx) (hc : X.calm = true := by rfl) (hg : Gl X x := by rfl)
    (hdb : (x == ("__debug__" : Str)) = false := by decide) : Pes X ea Wx (.Raise (some (.Call (.Name x p) [.Constant (.str t) j p2] [] pos)) none pos') (mRaise0 x) :=
  ⟨_, ps_raise hc tk (pmk_own F q hC kC r hg hdb), ref_raise0 hC⟩
end
end Z

set_option Elab.async false
set_option linter.all false
set_option maxRecDepth 100000
/-! Z18: own __eq__, __le__, __contains__, __getitem__, __len__, __or__ .. -/
namespace Z
open PySem PySem.Spec PyProof.Rows L2
def OpRS (X : Cx) (g : Value → Value → Sem Value) (r : L2.St → R2) : Prop :=
  ∀ (pins : List (Addr × Obj)) (s : Shared) (σ : L2.St) (H : Hp) (x y : V) (v u : Value) (Q : VK), Inv X pins σ H s → RelV x v → RelV y u → r σ x y H Q → wpAny (model X.prog X.w) X.A (g v u) (EP X pins σ Q) X.xe s
def tOpS (r : L2.St → R2) (ta tb : TE) : TE := fun σ H Q => ta σ H fun x H1 => tb σ H1 fun y H2 => r σ x y H2 Q
section
variable {X : Cx} {pos : Pos} {ta tb : TE} {a b : Expr}
theorem pe_opS {op : Operator} {r : L2.St → R2} (ho : OpRS X (binaryOp op) r) (ha : PE X a ta) (hb : PE X b tb) : PE X (.BinOp a op b pos) (tOpS r ta tb) :=
  ⟨fun pins s σ H Q I h => wpAny_BinOp (binT ha hb I h fun _ _ t _ _ H' J k1 k2 q => ho pins t σ H' _ _ _ _ Q J k1 k2 q)⟩
theorem pe_cmpS {op : CmpOp} {r : L2.St → R2} (ho : OpRS X (compareOp op) r) (ha : PE X a ta) (hb : PE X b tb) (hm : behindInMarks op b = false) : PE X (.Compare a [op] [b] pos) (tOpS r ta tb) :=
  ⟨fun pins s σ H Q I h => wpAny_Compare1 (binT ha hb I h fun _ _ t _ _ H' J k1 k2 q => ho pins t σ H' _ _ _ _ Q J k1 k2 q) hm⟩
theorem pt_cmpS {op : CmpOp} {r : L2.St → R2} (ho : OpRS X (compareOp op) r) (ha : PE X a ta) (hb : PE X b tb) (hm : behindInMarks op b = false) : PT X (.Compare a [op] [b] pos) (tTest (tOpS r ta tb)) := by
  constructor
  intro pins s σ H Q I h
  apply wpAny_isTrue_Compare1 _ hm
  apply thn (ha.run pins s σ H _ I h)
  rintro v s1 ⟨x, H1, I1, r1, q1⟩
  apply thn (hb.run pins s1 σ H1 _ I1 q1)
  rintro u s2 ⟨y, H2, I2, r2, q2⟩
  apply thn (ho pins s2 σ H2 x y v u _ I2 r1 r2 q2)
  rintro _ s3 ⟨_, H3, J, r3, k, rfl, q3⟩
  cases r3
  exact wpAny_truthy_bool ⟨H3, J, q3⟩
end
def OpMS (X : Cx) (ea : EA) (Wx : WX) (g : Value → Value → Sem Value) (f : RV → RV → Mo RV) : Prop :=
  ∃ r : L2.St → R2, OpRS X g r ∧ ∀ (σ : L2.St) (H : Hp) (io : List Addr) (Fr : Addr → Prop) (s : S), Sim X.K X.mg ea io Fr s σ H → ∀ x y vx vy, RvR X.K X.mg io (Ms io Fr s σ) σ H x vx → RvR X.K X.mg io (Ms io Fr s σ) σ H y vy →
    ∀ r0 s', f x y s = some (r0, s') → ∀ Q : VK, (∀ z, r0 = .ok z → ∀ v H' io', PostE X.K X.mg ea io Fr s σ H s' io' H' z v → Q v H') → (∀ z, r0 = .error z → ∀ cls d H' io', PostX X.K X.mg ea io Fr s σ H s' σ io' H' z cls d → Wx cls d σ H') → r σ vx vy H Q
def mBinS (f : RV → RV → Mo RV) (ma mb : Mo RV) : Mo RV := bnd ma fun x => bnd mb fun y => f (settle x) (settle y)
section
variable {K : PySem.W.Frag} {mg : Str → Option Value} {ea : EA} {io io' : List Addr} {Fr Fr' : Addr → Prop} {s s' s2 : S} {σ σ' : L2.St} {H H' : Hp} {w : W} {v : V} {c c' : Cell} {o o' : HO} {a p C : Addr} {ws : List W} {vs : List V} {M M' : Addr → Prop} {Wx : WX}
theorem ref_opS {ta tb : TE} {ma mb : Mo RV} {f : RV → RV → Mo RV} {r : L2.St → R2} (ha : RefE K mg ea Wx ta ma) (hb : RefE K mg ea Wx tb mb)
    (hr : ∀ (σ : L2.St) (H : Hp) (io : List Addr) (Fr : Addr → Prop) (s : S), Sim K mg ea io Fr s σ H → ∀ x y vx vy, RvR K mg io (Ms io Fr s σ) σ H x vx → RvR K mg io (Ms io Fr s σ) σ H y vy →
    ∀ r0 s', f x y s = some (r0, s') → ∀ Q : VK, (∀ z, r0 = .ok z → ∀ v H' io', PostE K mg ea io Fr s σ H s' io' H' z v → Q v H') → (∀ z, r0 = .error z → ∀ cls d H' io', PostX K mg ea io Fr s σ H s' σ io' H' z cls d → Wx cls d σ H') → r σ vx vy H Q) :
    RefE K mg ea Wx (tOpS r ta tb) (mBinS f ma mb) := by
  intro σ H io Fr s S0 r0 s' e Q hok hex
  refine bin2 ha hb S0 e hex fun x y s2 vx vy H2 io2 e4 S2 T2 rx ry => ?_
  exact hr σ H2 io2 Fr s2 S2 x y vx vy rx ry r0 s' e4 Q (fun z q v H' io' p => hok z q v H' io' (p.trans T2)) fun z q cls d H' io' p => hex z q cls d H' io' ⟨p.1, T2.trans p.2.1, p.2.2⟩
/-- the receiver and the type of the other operand -/
def chkO (nm : Str) (tys : List CT) : List W → Mo Unit
  | [x, y] => fun s => match derefW s x, (derefW s y).bind tyOfW with
    | some (.obj nm' _), some ct => if nm' = nm ∧ ct ∈ tys then some (.ok (), s) else none
    | _, _ => none
  | _ => stk
def chk1 (nm : Str) : List W → Mo Unit
  | x :: _ => fun s => match derefW s x with
    | some (.obj nm' _) => if nm' = nm then some (.ok (), s) else none
    | _ => none
  | _ => stk
def mOwn2 (nm : Str) (tys : List CT) (m : Fn) (x y : RV) : Mo RV := bnd (freezeAll [x, y]) fun ws => bnd (chkO nm tys ws) fun _ => callG m ws
/-- a call's answer, a truth value -/
def toBl (neg : Bool) : RV → Mo RV
  | .val (.bl b) => ret (.val (.bl (if neg then !b else b)))
  | _ => stk
def mIn2 (neg : Bool) (nm : Str) (m : Fn) (x y : RV) : Mo RV := bnd (freezeAll [y, x]) fun ws => bnd (chk1 nm ws) fun _ => bnd (callG m ws) (toBl neg)
def mSub2 (nm : Str) (m : Fn) (x y : RV) : Mo RV := bnd (freezeAll [x, y]) fun ws => bnd (chk1 nm ws) fun _ => callG m ws
noncomputable def toLen : RV → Mo RV
  | .val (.int n) => if Lk n then ret (.val (.int n)) else stk
  | _ => stk
noncomputable def mLenO (nm : Str) (m : Fn) (ms : Mo (List RV)) : Mo RV := bnd ms fun xs => bnd (freezeAll xs) fun ws => if ws.length = 1 then bnd (chk1 nm ws) fun _ => bnd (callG m ws) toLen else stk
theorem chk1_ok (S0 : Sim K mg ea io Fr s σ H) {nm : Str} (hC : mg nm = some (.ref C)) (R : Rws K mg io (Ms io Fr s σ) H ws vs) {r : Except Ex Unit} (e : chk1 nm ws s = some (r, s')) : s' = s ∧ r = .ok () ∧ ∃ a dx fs rest, vs = .ref a :: rest ∧ H a = some (.ins C dx fs) := by
  unfold chk1 at e
  split at e
  · rename_i x rest
    split at e
    · rename_i nm' fs hd
      split at e
      · rename_i hc
        subst hc
        cases e
        obtain ⟨v, r', rfl, h1, h2⟩ := R.cons_inv
        obtain ⟨a, C', dx, us, rfl, hm, hH, rk⟩ := (deref_ok S0 h1 hd).obj
        rw [hC] at hm
        cases hm
        exact ⟨rfl, rfl, a, dx, us, r', rfl, hH⟩
      · cases e
    · cases e
  · cases e
/-- the types that may stand on the right -/
structure NfTab (K : PySem.W.Frag) (mg : Str → Option Value) (C : Addr) (tys : List CT) : Prop where
  at' : ∀ ct ∈ tys, (∀ t, ct.Is mg t → PySem.W.notFirst K C t = true) ∧ ∀ nm, ct = .own nm → ∃ C, mg nm = some (.ref C) ∧ C8.InsC K C
theorem NfTab.nil : NfTab K mg C [] := ⟨fun ct h => by cases h⟩
theorem NfTab.ty {tys : List CT} {n : String} (h : PySem.W.notFirst K C (.type n) = true) (r : NfTab K mg C tys) : NfTab K mg C (.ty n :: tys) := ⟨fun ct hh => by
  rcases List.mem_cons.mp hh with rfl | q
  · exact ⟨fun t ht => by cases ht; exact h, fun nm q => by cases q⟩
  · exact r.at' ct q⟩
theorem NfTab.own {tys : List CT} {nm : Str} {D : Addr} (hm : mg nm = some (.ref D)) (ic : C8.InsC K D) (h : PySem.W.notFirst K C (.ref D) = true) (r : NfTab K mg C tys) : NfTab K mg C (.own nm :: tys) := ⟨fun ct hh => by
  rcases List.mem_cons.mp hh with rfl | q
  · exact ⟨fun t ht => by obtain ⟨E, h1, rfl⟩ := ht; rw [hm] at h1; cases h1; exact h, fun nm' q => by cases q; exact ⟨D, hm, ic⟩⟩
  · exact r.at' ct q⟩
theorem chkO_ok (S0 : Sim K mg ea io Fr s σ H) {nm : Str} {tys : List CT} (hC : mg nm = some (.ref C)) (T : NfTab K mg C tys) (R : Rws K mg io (Ms io Fr s σ) H ws vs) {r : Except Ex Unit} (e : chkO nm tys ws s = some (r, s')) :
    s' = s ∧ r = .ok () ∧ ∃ a dx fs y t, vs = [.ref a, y] ∧ H a = some (.ins C dx fs) ∧ TyY K H y t ∧ PySem.W.notFirst K C t = true := by
  unfold chkO at e
  split at e
  · rename_i x y
    split at e
    · rename_i nm' fs ct hd hd2
      split at e
      · rename_i hc
        obtain ⟨rfl, hin⟩ := hc
        cases e
        obtain ⟨v, r', rfl, h1, h2⟩ := R.cons_inv
        obtain ⟨v2, r2, rfl, h3, h4⟩ := h2.cons_inv
        obtain rfl := h4.nil_inv
        obtain ⟨a, C', dx, us, rfl, hm, hH, rk⟩ := (deref_ok S0 h1 hd).obj
        rw [hC] at hm
        cases hm
        obtain ⟨wy, k1, k2⟩ := Option.bind_eq_some_iff.mp hd2
        obtain ⟨k3, k4⟩ := T.at' ct hin
        obtain ⟨t, ht, ty⟩ := (deref_ok S0 h3 k1).ty k2 k4
        exact ⟨rfl, rfl, a, dx, us, v2, t, rfl, hH, ty, k3 t ht⟩
      · cases e
    · cases e
  · cases e
end
/-! ### the calls -/
theorem relv_ni {z : V} (h : RelV z .notImplemented) : False := by
  cases z <;> first | exact nomatch h | (obtain ⟨t, h⟩ := h; exact nomatch h)
section
variable {X : Cx} {ea : EA} {Wx : WX} {m : Fn} {k n : Nat} {f C : Addr} {fd : FuncData} {ps : List Str} {nm : Str} {A1 : Around}
/-- the same frames, a step further in -/
theorem Sub.env0 {pins : List (Addr × Obj)} {σ : L2.St} {H : Hp} {s : Shared} (sb : Sub X k A1) (I : Inv X pins σ H s) : Env0 X.prog X.w X.K X.mg X.base A1 X.stack s H :=
  { I.env0 with frames := sb.fr.trans I.env0.frames }
/-- an instance as the state has it -/
theorem inst_of {pins : List (Addr × Obj)} {σ : L2.St} {H : Hp} {s : Shared} {a dx : Addr} {fs : List (Str × V)} (I : Inv X pins σ H s) (h : H a = some (.ins C dx fs)) : ∃ o d, PySem.W.InstAt s.heap a o C d :=
  let ⟨_, J, _⟩ := ins_get I.hok h; let ⟨d, J, _⟩ := J.look; ⟨_, d, J⟩
theorem run_fnSub {pins : List (Addr × Obj)} {σ : L2.St} {H : Hp} {s : Shared} {Q : VK} {us : List Value} {vs : List V} (sb : Sub X k A1) (F : FnM X.prog X.w X.K X.mg X.base k f fd ps m) (hb : Binds X.K fd ps []) (tk : Takes X Wx)
    (I : Inv X pins σ H s) (r : Vals vs us) (h : spM X.K X.mg ps.length m vs H Q (WE Wx σ)) : wpAny (model X.prog X.w) A1 (call (.ref f) us) (EP X pins σ Q) X.xe s :=
  call_at I (F.ok.run A1 X.stack s H ⟨us, []⟩ us vs Q (WE Wx σ) sb.room (Sub.env0 sb I) (binds0 (n := 0) hb I (r.length.symm.trans h.1)) r h) fun e s' q => passAt tk σ pins H s e s' I q
theorem back_of {pins : List (Addr × Obj)} {σ : L2.St} {Q : VK} {v : Value} {s' : Shared} (h : EP X pins σ Q v s') : PySem.W.CmpBack (EP X pins σ Q) v s' := by
  cases v <;> first | exact h | (obtain ⟨z, _, _, r, _⟩ := h; exact (relv_ni r).elim)
variable {tys : List CT}
/-- the answers of an own comparison -/
theorem os_cmp {op : CmpOp} (hop : ∀ v u, compareOp op v u = richCompare op v u) (hC : X.mg nm = some (.ref C)) (T : NfTab X.K X.mg C tys) (F : FnM X.prog X.w X.K X.mg X.base k f fd ps m) (hp : ps.length = 2) (hr : Room k X.A) (hb : Binds X.K fd ps []) (tk : Takes X Wx)
    (hs : PySem.W.findIn X.K (.ref C) (cmpInfo op).2.1 = some (some (.ref f))) (hf : PySem.W.isFn X.K (.ref f) = true) : OpMS X ea Wx (compareOp op) (mOwn2 nm tys m) := by
  refine ⟨fun σ x y H Q => ∃ a dx fs t, x = .ref a ∧ H a = some (.ins C dx fs) ∧ TyY X.K H y t ∧ PySem.W.notFirst X.K C t = true ∧ spM X.K X.mg ps.length m [x, y] H Q (WE Wx σ), ?_, ?_⟩
  · intro pins s σ H x y v u Q I rx ry h
    obtain ⟨a, dx, fs, t, rfl, ha, ty, nf, q⟩ := h
    rw [hop]
    cases rx
    obtain ⟨oA, od, J⟩ := inst_of I ha
    obtain ⟨m0, hF⟩ := I.fr
    obtain ⟨P, Z, p, _⟩ := kit_ofY I ry ty
    refine PySem.W.cmp_K (op := op) (tb := t) hr.units0 hF I.ok.mod.kin J (Z.ty _ _ I.kIn p) nf hs hf ?_
    exact wpAny_mono (run_fnSub ⟨hr, rfl⟩ F hb tk I (.cons (show RelV (V.ref a) (Value.ref a) from rfl) (.cons ry .nil)) q) (fun v s' h => back_of h) fun _ _ x => x
  · intro σ H io Fr s S0 x y vx vy rx ry r0 s' e Q hok hex
    rcases bnd_some e with ⟨z, e3, _⟩ | ⟨ws, s2, e3, e4⟩
    · obtain ⟨_, _, _, _, q, _⟩ := freezeAll_ok S0 (.cons rx (.cons ry .nil)) e3
      cases q
    · obtain ⟨_, m2, S2, ws', q, r2⟩ := freezeAll_ok S0 (.cons rx (.cons ry .nil)) e3
      cases q
      rcases bnd_some e4 with ⟨z, e5, _⟩ | ⟨_, s3, e5, e6⟩
      · obtain ⟨_, q, _⟩ := chkO_ok S2 hC T r2 e5
        cases q
      · obtain ⟨rfl, _, a, dx, fs, y', t, hv, hH, ty, nf⟩ := chkO_ok S2 hC T r2 e5
        cases hv
        have T2 : Stp io (Ms io Fr s σ) Fr H io (Ms io Fr s3 σ) H := Stp.refl.less m2
        exact ⟨a, dx, fs, t, rfl, hH, ty, nf, spM_use (n := ps.length) S2 r2 (by simp [hp]) e6 (fun x q v H' io' p => hok x q v H' io' (p.trans T2)) fun x q cls d H' io' p => hex x q cls d H' io' ⟨p.1, T2.trans p.2.1, p.2.2⟩⟩
/-- a call whose answer is read on -/
theorem spM_then {K : PySem.W.Frag} {mg : Str → Option Value} {io : List Addr} {Fr : Addr → Prop} {s s' : S} {σ : L2.St} {H : Hp} {ws : List W} {vs : List V} {g : RV → Mo RV} (S0 : Sim K mg ea io Fr s σ H) (R : Rws K mg io (Ms io Fr s σ) H ws vs) (hn : vs.length = n) {r : Except Ex RV} (e : bnd (callG m ws) g s = some (r, s')) {Q : VK}
    (hok : ∀ x s1, g x s1 = some (r, s') → ∀ v H' io', PostE K mg ea io Fr s σ H s1 io' H' x v → Q v H') (hex : ∀ x, r = .error x → ∀ cls d H' io', PostX K mg ea io Fr s σ H s' σ io' H' x cls d → Wx cls d σ H') : spM K mg n m vs H Q (WE Wx σ) := by
  rcases bnd_some e with ⟨x, e1, rfl⟩ | ⟨x, s1, e1, e2⟩
  · exact spM_use S0 R hn e1 (fun _ q => by cases q) fun x' q cls d H' io' p => by
      cases q
      exact hex _ rfl cls d H' io' p
  · exact spM_use S0 R hn e1 (fun x' q v H' io' p => by cases q; exact hok _ _ e2 v H' io' p) (fun _ q => by cases q)
theorem os_in (neg : Bool) (hC : X.mg nm = some (.ref C)) (F : FnM X.prog X.w X.K X.mg X.base k f fd ps m) (hp : ps.length = 2) (hr : Room k X.A) (hb : Binds X.K fd ps []) (tk : Takes X Wx)
    (hs : PySem.W.findIn X.K (.ref C) "__contains__" = some (some (.ref f))) (hf : PySem.W.isFn X.K (.ref f) = true) : OpMS X ea Wx (compareOp (if neg then .NotIn else .In)) (mIn2 neg nm m) := by
  refine ⟨fun σ x y H Q => ∃ a dx fs, y = .ref a ∧ H a = some (.ins C dx fs) ∧ spM X.K X.mg ps.length m [y, x] H (fun v H' => ∃ b, v = .bl b ∧ Q (.bl (if neg then !b else b)) H') (WE Wx σ), ?_, ?_⟩
  · rintro pins s σ H x y v u Q I rx ry ⟨a, dx, fs, rfl, ha, q⟩
    cases ry
    obtain ⟨oA, od, J⟩ := inst_of I ha
    obtain ⟨m0, hF⟩ := I.fr
    have run := run_fnSub (us := [.ref a, v]) (A1 := X.A) ⟨hr, rfl⟩ F hb tk I (.cons (show RelV (V.ref a) (Value.ref a) from rfl) (.cons rx .nil)) q
    cases neg with
    | false =>
      refine PySem.W.in_K hF I.ok.mod.kin J hs hf (wpAny_mono run (fun r s' hh => ?_) fun _ _ x => x)
      obtain ⟨z, H', I', rz, b, rfl, qq⟩ := hh
      cases rz
      exact wpAny_truthy_bool ⟨.bl b, H', I', rfl, qq⟩
    | true =>
      refine PySem.W.notIn_K hF I.ok.mod.kin J hs hf (wpAny_mono run (fun r s' hh => ?_) fun _ _ x => x)
      obtain ⟨z, H', I', rz, b, rfl, qq⟩ := hh
      cases rz
      exact wpAny_truthy_bool ⟨.bl (!b), H', I', rfl, qq⟩
  · intro σ H io Fr s S0 x y vx vy rx ry r0 s' e Q hok hex
    rcases bnd_some e with ⟨z, e3, _⟩ | ⟨ws, s2, e3, e4⟩
    · obtain ⟨_, _, _, _, q, _⟩ := freezeAll_ok S0 (.cons ry (.cons rx .nil)) e3
      cases q
    · obtain ⟨_, m2, S2, ws', q, r2⟩ := freezeAll_ok S0 (.cons ry (.cons rx .nil)) e3
      cases q
      rcases bnd_some e4 with ⟨z, e5, _⟩ | ⟨_, s3, e5, e6⟩
      · obtain ⟨_, q, _⟩ := chk1_ok S2 hC r2 e5
        cases q
      · obtain ⟨rfl, _, a, dx, fs, rest, hv, hH⟩ := chk1_ok S2 hC r2 e5
        cases hv
        have T2 : Stp io (Ms io Fr s σ) Fr H io (Ms io Fr s3 σ) H := Stp.refl.less m2
        refine ⟨a, dx, fs, rfl, hH, spM_then (n := ps.length) S2 r2 (by simp [hp]) e6 (fun z s1 e7 v H' io' px => ?_) fun x q cls d H' io' p => hex x q cls d H' io' ⟨p.1, T2.trans p.2.1, p.2.2⟩⟩
        unfold toBl at e7
        split at e7
        · rename_i b
          cases e7
          obtain ⟨S7, T7, R7⟩ := px
          cases R7
          exact ⟨b, rfl, hok _ rfl _ _ _ ⟨S7, T2.trans T7, .bl _⟩⟩
        · cases e7
/-- own binary operators, both operands of the class -/
theorem os_bin {op : Operator} (hC : X.mg nm = some (.ref C)) (F : FnM X.prog X.w X.K X.mg X.base k f fd ps m) (hp : ps.length = 2) (hr : Room k X.A) (hb : Binds X.K fd ps []) (tk : Takes X Wx) (hc : PySem.W.selfFirst X.K C = true) (ic : C8.InsC X.K C)
    (hs : PySem.W.findIn X.K (.ref C) (PySem.dunder op.info.2) = some (some (.ref f))) (hf : PySem.W.isFn X.K (.ref f) = true) (hn : PySem.W.notFirst X.K C (.ref C) = true) : OpMS X ea Wx (binaryOp op) (mOwn2 nm [.own nm] m) := by
  have NT : NfTab X.K X.mg C [.own nm] := NfTab.own hC ic hn NfTab.nil
  refine ⟨fun σ x y H Q => ∃ a dx fs b dy gs, x = .ref a ∧ H a = some (.ins C dx fs) ∧ y = .ref b ∧ H b = some (.ins C dy gs) ∧ spM X.K X.mg ps.length m [x, y] H Q (WE Wx σ), ?_, ?_⟩
  · intro pins s σ H x y v u Q I rx ry h
    obtain ⟨a, dx, fs, b, dy, gs, rfl, ha, rfl, hb2, q⟩ := h
    cases rx
    cases ry
    obtain ⟨oA, od, J⟩ := inst_of I ha
    obtain ⟨oB, od', J'⟩ := inst_of I hb2
    obtain ⟨m0, hF⟩ := I.fr
    refine PySem.W.binop_K hF I.ok.mod.kin J J'.type hc hs hf ?_
    exact wpAny_mono (run_fnSub ⟨hr, rfl⟩ F hb tk I (.cons (show RelV (V.ref a) (Value.ref a) from rfl) (.cons (show RelV (V.ref b) (Value.ref b) from rfl) .nil)) q) (fun v s' h => back_of h) fun _ _ x => x
  · intro σ H io Fr s S0 x y vx vy rx ry r0 s' e Q hok hex
    rcases bnd_some e with ⟨z, e3, _⟩ | ⟨ws, s2, e3, e4⟩
    · obtain ⟨_, _, _, _, q, _⟩ := freezeAll_ok S0 (.cons rx (.cons ry .nil)) e3
      cases q
    · obtain ⟨_, m2, S2, ws', q, r2⟩ := freezeAll_ok S0 (.cons rx (.cons ry .nil)) e3
      cases q
      rcases bnd_some e4 with ⟨z, e5, _⟩ | ⟨_, s3, e5, e6⟩
      · obtain ⟨_, q, _⟩ := chkO_ok S2 hC NT r2 e5
        cases q
      · have T2 : Stp io (Ms io Fr s σ) Fr H io (Ms io Fr s2 σ) H := Stp.refl.less m2
        unfold chkO at e5
        split at e5
        · rename_i wx wy
          split at e5
          · rename_i nm' fs ct hd hd2
            split at e5
            · rename_i hcc
              obtain ⟨rfl, hin⟩ := hcc
              simp only [List.mem_singleton] at hin
              subst hin
              cases e5
              obtain ⟨v1, rr, h0, h1, h2⟩ := r2.cons_inv
              cases h0
              obtain ⟨v2, rr2, h0, h3, h4⟩ := h2.cons_inv
              cases h0
              obtain ⟨a, C', dx, us, hva, hm, hH, rk⟩ := (deref_ok S2 h1 hd).obj
              rw [hC] at hm
              cases hm
              obtain ⟨wyy, k1, k2⟩ := Option.bind_eq_some_iff.mp hd2
              cases wyy <;> simp [tyOfW] at k2
              subst k2
              obtain ⟨b, C', dy, gs, hvb, hm, hH2, rk2⟩ := (deref_ok S2 h3 k1).obj
              rw [hC] at hm
              cases hm
              exact ⟨a, dx, us, b, dy, gs, hva, hH, hvb, hH2, spM_use (n := ps.length) S2 r2 (by simp [hp]) e6 (fun x q v H' io' p => hok x q v H' io' (p.trans T2)) fun x q cls d H' io' p => hex x q cls d H' io' ⟨p.1, T2.trans p.2.1, p.2.2⟩⟩
            · cases e5
          · cases e5
        · cases e5
end
section
variable {X : Cx} {ea : EA} {Wx : WX} {m : Fn} {k n : Nat} {f C : Addr} {fd : FuncData} {ps : List Str} {nm : Str} {a b e : Expr} {ma mb : Mo RV} {ms : Mo (List RV)} {pos p : Pos} {g : RV → RV → Mo RV}
theorem pee_cmpS {op : CmpOp} (ho : OpMS X ea Wx (compareOp op) g) (ha : Pee X ea Wx a ma) (hb : Pee X ea Wx b mb) (hm : behindInMarks op b = false := by with_unfolding_all rfl) : Pee X ea Wx (.Compare a [op] [b] pos) (mBinS g ma mb) :=
  let ⟨_, p, q⟩ := ho; let ⟨_, q1, r1⟩ := ha.ex; let ⟨_, q2, r2⟩ := hb.ex; ⟨_, pe_cmpS p q1 q2 hm, ref_opS r1 r2 q⟩
theorem pet_cmpS {op : CmpOp} (ho : OpMS X ea Wx (compareOp op) g) (ha : Pee X ea Wx a ma) (hb : Pee X ea Wx b mb) (hm : behindInMarks op b = false := by with_unfolding_all rfl) : Pet X ea Wx (.Compare a [op] [b] pos) (mB (mBinS g ma mb)) :=
  let ⟨_, p, q⟩ := ho; let ⟨_, q1, r1⟩ := ha.ex; let ⟨_, q2, r2⟩ := hb.ex; ⟨_, pt_cmpS p q1 q2 hm, ref_test (ref_opS r1 r2 q)⟩
theorem pee_opS {op : Operator} (ho : OpMS X ea Wx (binaryOp op) g) (ha : Pee X ea Wx a ma) (hb : Pee X ea Wx b mb) : Pee X ea Wx (.BinOp a op b pos) (mBinS g ma mb) :=
  let ⟨_, p, q⟩ := ho; let ⟨_, q1, r1⟩ := ha.ex; let ⟨_, q2, r2⟩ := hb.ex; ⟨_, pe_opS p q1 q2, ref_opS r1 r2 q⟩
theorem pee_subO (hC : X.mg nm = some (.ref C)) (F : FnM X.prog X.w X.K X.mg X.base k f fd ps m) (hp : ps.length = 2) (hr : Room (k + 1) X.A) (hb : Binds X.K fd ps []) (tk : Takes X Wx)
    (hs : PySem.W.findIn X.K (.ref C) "__getitem__" = some (some (.ref f))) (hf : PySem.W.isFn X.K (.ref f) = true) (hfn : PySem.W.fnIn X.K f = true) (ha : Pee X ea Wx a ma) (hbb : Pee X ea Wx b mb)
    (hsl : ∀ o i, subscripted b true o i = runValue (.builtin "lifetime.subscript" ⟨[o, i], []⟩) := by intro _ _; with_unfolding_all rfl) : Pee X ea Wx (.Subscript a b pos) (mBinS (mSub2 nm m) ma mb) := by
  obtain ⟨ta, q1, r1⟩ := ha.ex
  obtain ⟨tb, q2, r2⟩ := hbb.ex
  refine ⟨tOpS (fun σ x y H Q => ∃ a dx fs, x = .ref a ∧ H a = some (.ins C dx fs) ∧ spM X.K X.mg ps.length m [x, y] H Q (WE Wx σ)) ta tb, ⟨fun pins s σ H Q I h => ?_⟩, ref_opS r1 r2 ?_⟩
  · refine Subscript_ (binT q1 q2 I h fun v u s2 x y H2 I2 rx ry hh => ?_)
    obtain ⟨a, dx, fs, rfl, ha, q⟩ := hh
    cases rx
    obtain ⟨mA, J, _⟩ := ins_get I2.hok ha
    obtain ⟨od, J, _⟩ := J.look
    obtain ⟨m0, hF⟩ := I2.fr
    exact PySem.W.sub_K hF I2.ok.mod.kin J hs hfn hf (run_fnSub (Sub.in1 ⟨hr, rfl⟩) F hb tk I2 (.cons (show RelV (V.ref a) (Value.ref a) from rfl) (.cons ry .nil)) q) (hsl _ _)
  · intro σ H io Fr s S0 x y vx vy rx ry r0 s' e Q hok hex
    rcases bnd_some e with ⟨z, e3, _⟩ | ⟨ws, s2, e3, e4⟩
    · obtain ⟨_, _, _, _, q, _⟩ := freezeAll_ok S0 (.cons rx (.cons ry .nil)) e3
      cases q
    · obtain ⟨_, m2, S2, ws', q, r2⟩ := freezeAll_ok S0 (.cons rx (.cons ry .nil)) e3
      cases q
      rcases bnd_some e4 with ⟨z, e5, _⟩ | ⟨_, s3, e5, e6⟩
      · obtain ⟨_, q, _⟩ := chk1_ok S2 hC r2 e5
        cases q
      · obtain ⟨rfl, _, a, dx, fs, rest, hv, hH⟩ := chk1_ok S2 hC r2 e5
        cases hv
        have T2 : Stp io (Ms io Fr s σ) Fr H io (Ms io Fr s3 σ) H := Stp.refl.less m2
        exact ⟨a, dx, fs, rfl, hH, spM_use (n := ps.length) S2 r2 (by simp [hp]) e6 (fun x q v H' io' p => hok x q v H' io' (p.trans T2)) fun x q cls d H' io' p => hex x q cls d H' io' ⟨p.1, T2.trans p.2.1, p.2.2⟩⟩
theorem pee_lenO (hC : X.mg nm = some (.ref C)) (F : FnM X.prog X.w X.K X.mg X.base k f fd ps m) (hp : ps.length = 1) (hr : Room (k + 1) X.A) (hb : Binds X.K fd ps []) (tk : Takes X Wx)
    (hs : PySem.W.findIn X.K (.ref C) "__len__" = some (some (.ref f))) (hf : PySem.W.isFn X.K (.ref f) = true) (hm : X.mg "len" = none) (ha : Pea X ea Wx [e] ms) (hg : Gl X "len" := by rfl) (hv : bootBuiltins "len" = some (.builtin "len") := by decide +kernel)
    (he : starEach [e] X.env = (false, eval e X.env) :: starEach [] X.env := by rfl) (hpl : (backTo pos (starEach [] X.env)).any (·.1) = false := by rfl) : Pee X ea Wx (.Call (.Name "len" p) [e] [] pos) (mLenO nm m ms) := by
  obtain ⟨t, q1, r1⟩ := ha.ex
  refine ⟨fun σ H Q => t σ H fun vs H1 => ∃ a dx fs, vs = [.ref a] ∧ H1 a = some (.ins C dx fs) ∧ spM X.K X.mg ps.length m vs H1 (fun v H' => ∃ i, v = .int i ∧ 0 ≤ i ∧ i < 2 ^ 63 ∧ Q (.int i) H') (WE Wx σ), ⟨fun pins s σ H Q I h => ?_⟩, ?_⟩
  · refine wpAny_Call_Name_kw (ld_blt I hg hm hv ?_ (by decide) (by decide))
    refine PyProof.Rows.callWith_builtin1 (thn (q1.run pos pins s σ H _ I h) fun us s1 ⟨vs, H1, I1, rv, q⟩ => ?_) he hpl
    obtain ⟨a, dx, fs, rfl, ha, q⟩ := q
    obtain rfl := Vals.ref1 rv
    obtain ⟨mA, J, _⟩ := ins_get I1.hok ha
    obtain ⟨od, J, _⟩ := J.look
    obtain ⟨m0, hF⟩ := I1.fr
    refine PySem.W.len_K hF I1.ok.mod.kin J hs hf (wpAny_mono (run_fnSub (Sub.in1 ⟨hr, rfl⟩) F hb tk I1 rv q) (fun v s' hh => ?_) fun _ _ x => x)
    obtain ⟨z, H', I', rz, i, rfl, h0, h1, qq⟩ := hh
    obtain ⟨t, rfl⟩ := rz
    exact ⟨⟨h0, h1⟩, .int i, H', I'.tok _, ⟨_, rfl⟩, qq⟩
  · intro σ H io Fr s S0 r0 s' e Q hok hex
    refine arg2 r1 S0 e hex fun xs vs s1 H1 io1 e2 px R1 => ?_
    rcases bnd_some e2 with ⟨x, e3, rfl⟩ | ⟨ws, s2, e3, e4⟩
    · obtain ⟨_, _, _, _, q, _⟩ := freezeAll_ok px.1 R1 e3
      cases q
    · obtain ⟨_, m2, S2, ws', q, r2⟩ := freezeAll_ok px.1 R1 e3
      cases q
      have T2 := px.2.less m2
      split at e4
      case isFalse => cases e4
      rename_i h1l
      rcases bnd_some e4 with ⟨z, e5, _⟩ | ⟨_, s3, e5, e6⟩
      · obtain ⟨_, q, _⟩ := chk1_ok S2 hC r2 e5
        cases q
      · obtain ⟨rfl, _, a, dx, fs, rest, hv, hH⟩ := chk1_ok S2 hC r2 e5
        subst hv
        have hr0 : rest = [] := by
          have := r2.1
          rw [h1l] at this
          simp at this
          exact this
        subst hr0
        refine ⟨a, dx, fs, rfl, hH, spM_then (n := ps.length) S2 r2 (by simp [hp]) e6 (fun z s1 e7 v H' io' px => ?_) fun x q cls d H' io' p => hex x q cls d H' io' ⟨p.1, T2.trans p.2.1, p.2.2⟩⟩
        unfold toLen at e7
        split at e7
        · rename_i i
          split at e7
          · rename_i hi
            cases e7
            obtain ⟨S7, T7, R7⟩ := px
            cases R7
            exact ⟨i, rfl, hi.1, hi.2, hok _ rfl _ _ _ ⟨S7, T2.trans T7, .int _⟩⟩
          · cases e7
        · cases e7
end
end Z

set_option linter.all false
set_option Elab.async false
set_option maxRecDepth 100000
set_option maxHeartbeats 1000000
/-! Z19: list(o) of an own instance whose __iter__ gives a built-in iterator over a field, with an own __len__. -/
namespace Z
open PySem PySem.Spec PyProof.Rows L2
/-- what a built-in iterator walks over: how many, what stands at it after i turns, what is left of it, what it yields, what must stand -/
structure Src where
  src : Addr
  len : Nat
  st : Addr → Nat → Heap → Prop
  fin : Addr → Option HO
  yl : Nat → V → Hp → Prop
  ok : Hp → Prop
def Src.at (S : Src) (it : Addr) (i : Nat) : HO := .ext (S.st it i)
def put (H : Hp) (a : Addr) (x : Option HO) : Hp := fun b => if b = a then x else H b
theorem put_ne {H : Hp} {a b : Addr} {x : Option HO} (h : b ≠ a) : put H a x b = H b := if_neg h
structure Steps (X : Cx) (A : Around) (it : Addr) (S : Src) : Prop where
  ty : ∀ {pins : List (Addr × Obj)} {σ : L2.St} {H : Hp} {s : Shared}, Inv X pins σ H s → H it = some (S.at it 0) → ∃ T i, s.TypeIs (.ref it) T ∧ Slot T "__next__" i
  more : ∀ {pins : List (Addr × Obj)} {σ : L2.St} {H : Hp} {s : Shared} {i : Nat} {Q : Option Value → Shared → Prop} {E : Value → Shared → Prop}, Inv X pins σ H s → H it = some (S.at it i) → S.ok H → i < S.len →
    (∀ v u s', S.yl i v H → RelV v u → Inv X pins σ (upd H it (S.at it (i + 1))) s' → Q (some u) s') → wpAny (model X.prog X.w) A (pyNext (.ref it)) Q E s
  last : ∀ {pins : List (Addr × Obj)} {σ : L2.St} {H : Hp} {s : Shared} {Q : Option Value → Shared → Prop} {E : Value → Shared → Prop}, Inv X pins σ H s → H it = some (S.at it S.len) → S.ok H →
    (∀ s', Inv X pins σ (put H it (S.fin it)) s' → Q none s') → wpAny (model X.prog X.w) A (pyNext (.ref it)) Q E s
/-- what was yielded -/
def Src.all (S : Src) (ys : List V) (H : Hp) : Prop := ∀ j v, ys[j]? = some v → S.yl j v H
/-- what is left alone stays -/
structure Mild (S : Src) : Prop where
  ok : ∀ {H H' : Hp}, S.ok H → H' S.src = H S.src → S.ok H'
  yl : ∀ {H H' : Hp} {i : Nat} {v : V}, S.yl i v H → (∀ b xs, H b = some (.tup xs) → H' b = some (.tup xs)) → S.yl i v H'
/-! ### a list's iterator -/
def srcL (K : PySem.W.Frag) (l : Addr) (zs : List V) : Src where
  src := l
  len := zs.length
  st := fun it i h => h.get? it = some (GNX.itObj l i)
  fin := fun it => some (ItE it zs.length)
  yl := fun i v _ => zs[i]? = some v
  ok := fun H => SqL K H l zs
section
variable {X : Cx} {pins : List (Addr × Obj)} {σ : L2.St} {H : Hp} {s : Shared} {it l q : Addr} {zs : List V} {A A1 : Around} {E : Value → Shared → Prop}
theorem stepsL (hh : A.handled = none) : Steps X A it (srcL X.K l zs) where
  ty := fun I e => ⟨"list_iterator", _, ⟨_, itO_get I e, rfl⟩, slot_listiter_next⟩
  more := by
    intro pins σ H s i Q E I e sq lt k
    obtain ⟨its, rv, pl, _⟩ := I.list (show SqL X.K H l zs from sq)
    obtain ⟨u, hu, ru⟩ := rv.get (List.getElem?_eq_getElem lt)
    have at_ := itO_get I e
    have typ : s.heap.IsListIter it l i := ⟨_, at_, rfl, rfl⟩
    unfold pyNext
    apply wpAny_bind (wpAny_attempt _)
    apply wpAny_callSpecial?_slot (name := Str.ofString "__next__") typ.typeIs slot_listiter_next
    apply wpAny_call_entry slot_listiter_next typ.typeIs entry_listiter_next _ (args_listiter_next _)
    apply wpAny_mono (GNX.next_item (Q := fun u s' => RelV zs[i] u ∧ Inv X pins σ (upd H it (ItO l it (i + 1))) s') at_ pl.isList (by simpa using hu) _) _ fun _ _ z => z
    · exact fun _ e2 sb => ⟨ru, I.write (t' := s.toks) (by rw [e]; exact True.intro) (.inl rfl) (fun b _ nb z => (sb.2 b nb).trans z) ⟨_, e2⟩ (itO_ok e2)⟩
    · rintro _ s2 ⟨u2, rfl, k1, k2⟩
      exact ⟨u2, rfl, wpAny_pure (k _ _ _ (List.getElem?_eq_getElem lt) k1 k2)⟩
  last := by
    intro pins σ H s Q E I e sq k
    obtain ⟨its, rv, pl, _⟩ := I.list (show SqL X.K H l zs from sq)
    have at_ := itO_get I e
    have typ : s.heap.IsListIter it l zs.length := ⟨_, at_, rfl, rfl⟩
    unfold pyNext
    apply wpAny_bind (wpAny_attempt _)
    apply wpAny_callSpecial?_slot (name := Str.ofString "__next__") typ.typeIs slot_listiter_next
    apply wpAny_call_entry slot_listiter_next typ.typeIs entry_listiter_next _ (args_listiter_next _)
    apply wpAny_mono (GNX.next_end (A := A) (Q := fun _ _ => False) hh at_ pl.isList (by rw [List.getElem?_toArray]; exact rv.none_of (List.getElem?_eq_none (Nat.le_refl _))) _) _ fun _ _ z => z
    · rintro h1 h2 x vs e1 sb keep _ hx _
      refine wpAny_bind (wpAny_isInstance (T := "StopIteration") (b := true) (by exact ⟨_, hx, rfl⟩) isSubtype_stop ?_)
      have J : Inv X pins σ (put H it ((srcL X.K l zs).fin it)) { s with heap := h1 } := I.write (e := it) (t' := s.toks) (by rw [e]; exact True.intro) (.inl rfl) (fun b _ nb z => (sb.2 b nb).trans z) ⟨_, e1⟩ (itE_ok e1)
      exact wpAny_pure (k _ (J.kept (t' := s.toks) keep))
    · rintro _ _ ⟨_, _, z⟩
      exact z.elim
theorem mildL {K : PySem.W.Frag} : Mild (srcL K l zs) where
  ok := fun {H H'} h e => by
    have e : H' l = H l := e
    show SqL K H' l zs
    unfold SqL Rd at *
    rw [e]
    exact h
  yl := fun h _ => h
/-! ### the list is filled -/
/-- one turn of list.extend -/
theorem turn_of {P : Program} {w : World} {Rs : Result → Shared → Prop}
    (h : wpAny (model P w) A1.in1 (pyNext (.ref it)) (fun r s' => match r with
      | none => Rs (.ok (.ret .none)) s'
      | some u => wpAny (model P w) A1.in1 (updateSeq q (·.push u)) (fun _ s2 => codeAny (model P w) A1 (.builtin "list.extend.loop" ⟨[.ref q, .ref it, .none], []⟩) Rs s2) (fun e s2 => Rs (.error e) s2) s') (fun e s2 => Rs (.error e) s2) s) :
    codeAny (model P w) A1 (.builtin "list.extend.loop" ⟨[.ref q, .ref it, .none], []⟩) Rs s := by
  apply codeAny_builtin PySem.F.entry_extend_loop
  rw [Around.under_plainId PySem.F.plain_extend_loop ⟨[.ref q, .ref it, .none], []⟩]
  apply wpAny_bind (m := pyNext (.ref it))
  apply wpAny_mono h _ fun _ _ z => z
  rintro (_ | u) s' k
  · exact wpAny_pure k
  · exact wpAny_bind (m := updateSeq q (·.push u)) (wpAny_mono k (fun _ s2 z => wpAny_pure ⟨plainId_quiet PySem.F.plain_extend_loop _, z⟩) fun _ _ z => z)
/-- the list so far, the iterator so far -/
def sofar (S : Src) (H0 : Hp) (it q : Addr) (i : Nat) (ys : List V) : Hp := upd (upd H0 it (S.at it i)) q (.lst ys)
theorem sofar_it {S : Src} {H0 : Hp} {i : Nat} {ys : List V} (ne : q ≠ it) : sofar S H0 it q i ys it = some (S.at it i) := by
  unfold sofar
  rw [upd_ne ne.symm, upd_same]
theorem sofar_other {S : Src} {H0 : Hp} {i : Nat} {ys : List V} {b : Addr} (h1 : b ≠ it) (h2 : b ≠ q) : sofar S H0 it q i ys b = H0 b := by
  unfold sofar
  rw [upd_ne h2, upd_ne h1]
theorem fill {S : Src} {H0 : Hp} {Rs : Result → Shared → Prop} (Y : Steps X A1.in1 it S) (ne : q ≠ it) (small : S.len ≤ sz) (okF : ∀ i ys, S.ok (sofar S H0 it q i ys)) (ylF : ∀ i ys j v, S.yl j v (sofar S H0 it q i ys) → S.yl j v H0)
    (done : ∀ s ys, ys.length = S.len → S.all ys H0 → Inv X pins σ (upd (put H0 it (S.fin it)) q (.lst ys)) s → Rs (.ok (.ret .none)) s) :
    ∀ (left i : Nat) (ys : List V) (s : Shared), i + left = S.len → ys.length = i → S.all ys H0 → Inv X pins σ (sofar S H0 it q i ys) s → codeAny (model X.prog X.w) A1 (.builtin "list.extend.loop" ⟨[.ref q, .ref it, .none], []⟩) Rs s := by
  intro left
  induction left with
  | zero =>
    intro i ys s e1 e2 al I
    have e1 : i = S.len := e1
    subst e1
    refine turn_of (Y.last I (sofar_it ne) (okF _ _) fun s' J => ?_)
    have same : put (sofar S H0 it q S.len ys) it (S.fin it) = upd (put H0 it (S.fin it)) q (.lst ys) := by
      funext b
      by_cases b1 : b = it
      · subst b1
        rw [upd_ne ne.symm]
        exact (if_pos rfl).trans (if_pos rfl).symm
      · rw [put_ne b1]
        by_cases b2 : b = q
        · subst b2
          unfold sofar
          rw [upd_same, upd_same]
        · rw [sofar_other b1 b2, upd_ne b2, put_ne b1]
    rw [same] at J
    exact done _ ys e2 al J
  | succ left ih =>
    intro i ys s e1 e2 al I
    refine turn_of (Y.more I (sofar_it ne) (okF _ _) (by omega) fun v u s' y r J => ?_)
    have here : upd (sofar S H0 it q i ys) it (S.at it (i + 1)) q = some (.lst ys) := by
      rw [upd_ne ne]
      exact upd_same
    obtain ⟨_, its, cap, r2, long, e⟩ := J.lstM here
    have room : its.length < sizeLine := by
      rw [sizeLine_eq]
      have : S.len ≤ 16777216 := small
      omega
    refine wpAny_updateSeq e rfl ?_ (by rw [List.size_toArray]; omega) (by show (its.toArray.push u).size ≤ _; rw [Array.size_push, List.size_toArray]; omega)
    refine ih (i + 1) (ys ++ [v]) _ (by omega) (by simp [e2]) (fun j x hj => ?_) ?_
    · by_cases jl : j < ys.length
      · rw [List.getElem?_append_left jl] at hj
        exact al j x hj
      · have je : j = i := by
          have := get_lt hj
          simp only [List.length_append, List.length_singleton] at this
          omega
        subst je
        rw [List.getElem?_append_right (by omega), e2, Nat.sub_self] at hj
        cases hj
        exact ylF _ _ _ _ y
    · have K := J.lset (f := (·.push u)) (its' := its ++ [u]) (t' := s'.toks) here e (by simp) (r2.append (.cons r .nil)) (by simp only [List.length_append, List.length_singleton]; omega)
      have same : upd (upd (sofar S H0 it q i ys) it (S.at it (i + 1))) q (.lst (ys ++ [v])) = sofar S H0 it q (i + 1) (ys ++ [v]) := by
        funext b
        by_cases b2 : b = q
        · subst b2
          rw [upd_same]
          exact upd_same.symm
        · by_cases b1 : b = it
          · subst b1
            rw [upd_ne b2, upd_same, sofar_it ne]
          · rw [upd_ne b2, upd_ne b1, sofar_other b1 b2, sofar_other b1 b2]
      rwa [same] at K
end
/-! ### the parts -/
/-- the promise of such an __iter__; mk tells the source by the field's value -/
def spIt (C : Addr) (fl : Str) (mk : V → Src → Prop) : Sp := fun vs H Q _ => ∃ a dx fs u S, vs = [.ref a] ∧ H a = some (.ins C dx fs) ∧ fs.lookup fl = some u ∧ mk u S ∧ S.ok H ∧ ∀ it, H it = none → Q (.ref it) (upd H it (S.at it 0))
structure IterC (K : PySem.W.Frag) (C fi fl : Addr) : Prop where
  it : PySem.W.findIn K (.ref C) "__iter__" = some (some (.ref fi))
  itF : PySem.W.isFn K (.ref fi) = true
  ln : PySem.W.findIn K (.ref C) "__len__" = some (some (.ref fl))
  lnF : PySem.W.isFn K (.ref fl) = true
/-- what the caller owes: the own __len__ may run beside the list at q and the iterator at it -/
def askLen (K : PySem.W.Frag) (mg : Str → Option Value) (m : Fn) (S : Src) (a q it : Addr) (H : Hp) (Q : VK) : Prop :=
  spM K mg 1 m [.ref a] (upd H it (S.at it 0)) (fun v H2 => ∃ n : Int, v = .int n ∧ 0 ≤ n ∧ n ≤ sz ∧ H2 q = some (.lst []) ∧ H2 it = some (S.at it 0) ∧ S.ok H2 ∧ S.len ≤ sz ∧
    ∀ ys, ys.length = S.len → S.all ys H2 → Q (.ref q) (upd (put H2 it (S.fin it)) q (.lst ys))) E0
def rListO (K : PySem.W.Frag) (mg : Str → Option Value) (C : Addr) (fl : Str) (mk : V → Src → Prop) (m : Fn) : List V → Hp → VK → Prop := fun xs H Q => ∃ a dx fs u S, xs = [.ref a] ∧ H a = some (.ins C dx fs) ∧ fs.lookup fl = some u ∧ mk u S ∧ S.ok H ∧
  ∀ q it, H q = none → H it = none → q ≠ it → askLen K mg m S a q it (upd H q (.lst [])) Q
/-- an own __len__ as a hint -/
theorem hintO {M : Model} {A : Around} {E : Value → Shared → Prop} {Q : Bool → Shared → Prop} {K : PySem.W.Frag} {ox : Obj} {od : Option Obj} {a C fl : Addr} {s : Shared} (hl : PySem.W.findIn K (.ref C) "__len__" = some (some (.ref fl))) (hK : K.In s.heap) (J : PySem.W.InstAt s.heap a ox C od)
    (h : wpAny M A (call (.builtin "len") [.ref a]) (fun v s' => ∃ n t, v = .int n t ∧ 0 ≤ n ∧ n ≤ sz ∧ Q (n != 0) s') (fun _ _ => False) s) : wpAny M A (Builtin.List.listLengthHint (.ref a)) Q E s := by
  have few : ∀ n : Int, n ≤ sz → Builtin.List.listTooLong n.toNat = false := fun n hi => notLongL (by rw [sizeLine_eq]; have : n ≤ (16777216 : Nat) := hi; omega)
  unfold Builtin.List.listLengthHint
  refine wpAny_bind (wpAny_bind (J.type.here ((PySem.W.looks_findIn hK hl).here (PySem.W.KFB.if_not rfl (wpAny_ite_split (fun _ => wpAny_bind (wpAny_rule (wpAny_bind (wpAny_attempt (wpAny_mono h ?_ fun _ _ z => z.elim))))) fun no => absurd rfl no)))))
  rintro _ s' ⟨n, t, rfl, lo, hi, q⟩
  exact wpAny_bind (m := asInt? (.int n t)) (wpAny_pure (PySem.W.KFB.if_not (few n hi) (wpAny_pure q)))
section
variable {X : Cx} {ea : EA} {Wx : WX} {m : Fn} {k n : Nat} {f C : Addr} {fd : FuncData} {ps : List Str} {nm : Str} {A A1 : Around} {pins : List (Addr × Obj)} {σ : L2.St} {H : Hp} {s : Shared}
/-- a def that lets nothing out, with what stays of the heap -/
theorem call_un {Q : VK} {us : List Value} {vs : List V} {sp : Sp} {kk : Nat} (sb : Sub X kk A1) (F : FnOk X.prog X.w X.K X.mg X.base (L2.CX X.prog X.w) kk f fd ps sp) (hb : Binds X.K fd ps []) (I : Inv X pins σ H s) (r : Vals vs us) (h : sp vs H Q E0) :
    wpAny (model X.prog X.w) A1 (call (.ref f) us) (fun u s' => ∃ v H', Inv X pins σ H' s' ∧ RelV v u ∧ Q v H' ∧ Un (frs X.stack) [] H H' s.heap s'.heap) (fun _ _ => False) s := by
  have all := F.run A1 X.stack s H ⟨us, []⟩ us vs Q E0 sb.room (Sub.env0 sb I) (binds0 (n := 0) hb I (by rw [← r.length]; exact F.len _ _ _ _ h)) r h
  refine wpAny_call (codeAny_mono all ?_)
  rintro (er | (_ | _ | _ | u)) s' q
  · obtain ⟨_, _, _, _, _, _, _, _, _, _, _, _, z⟩ := q
    exact z
  · exact q.elim
  · exact q.elim
  · exact q.elim
  · obtain ⟨v, H', J, rv, z⟩ := I.after (Q := fun v H' => Q v H' ∧ Un (frs X.stack) [] H H' s.heap s'.heap) (by
      obtain ⟨v, H', e1, e2, un, e4, rv, z⟩ := q
      exact ⟨v, H', e1, e2, un, e4, rv, z, un⟩)
    exact ⟨v, H', J, rv, z.1, z.2⟩
variable {fi flA : Addr} {fdI fdL : FuncData} {psI psL : List Str} {fl : Str} {mk : V → Src → Prop} {a q : Addr} {dx : Addr} {fs : List (Str × V)} {u : V} {S : Src} {Q : VK} {Rs : Result → Shared → Prop}
/-- the parts of such a class -/
structure IterP (X : Cx) (C : Addr) (fl : Str) (mk : V → Src → Prop) (n : Nat) (m : Fn) (fi flA : Addr) (fdI fdL : FuncData) (psI psL : List Str) : Prop where
  cls : IterC X.K C fi flA
  FI : FnOk X.prog X.w X.K X.mg X.base (L2.CX X.prog X.w) n fi fdI psI (spIt C fl mk)
  bI : Binds X.K fdI psI []
  FL : FnM X.prog X.w X.K X.mg X.base n flA fdL psL m
  one : psL.length = 1
  bL : Binds X.K fdL psL []
/-- the sources by mk: alive where they stand, walked by what iter gives -/
def Good (X : Cx) (A : Around) (mk : V → Src → Prop) : Prop := ∀ u S, mk u S → Mild S ∧ ∀ {pins : List (Addr × Obj)} {σ : L2.St} {H : Hp} {s : Shared}, Inv X pins σ H s → S.ok H → (∃ o, s.heap.get? S.src = some o) ∧ ∀ it, s.heap.get? it = none → Steps X A it S
/-- the room is made -/
theorem touch {M : Model} {E : Value → Shared → Prop} {P : PySem.Fin → Shared → Prop} {c : Sem PySem.Fin} {nm : String} (I : Inv X pins σ H s) (hq : H q = some (.lst [])) (k : ∀ s', Inv X pins σ H s' → wpAny M A c P E s') :
    wpAny M A (do rule nm; Builtin.List.listTouch (.ref q); c) P E s := by
  obtain ⟨_, its, cap, r, _, e⟩ := I.lstM hq
  cases r
  have J := I.lset (f := (·.push Value.none)) (its' := [Value.none]) (ys := [.non]) (t' := s.toks) hq e (by simp) (.cons rfl .nil) (by rw [List.length_singleton, sizeLine_eq]; decide)
  obtain ⟨_, its2, cap2, r2, _, e2⟩ := J.lstM upd_same
  obtain ⟨u2, rfl, _⟩ := r2.one
  have J2 := J.lset (f := (·.pop)) (its := [u2]) (its' := []) (ys := []) (t' := s.toks) upd_same e2 (by rfl) .nil (Nat.zero_le _)
  have same : upd (upd H q (.lst [.non])) q (.lst []) = H := by
    rw [upd_upd]
    funext b
    by_cases hb : b = q
    · rw [hb, upd_same, hq]
    · exact upd_ne hb
  rw [same] at J2
  refine wpAny_bind (wpAny_rule (wpAny_bind ?_))
  show wpAny M A (updateSeq q (·.push .none) >>= fun _ => updateSeq q (·.pop)) _ _ _
  exact wpAny_bind (wpAny_updateSeq e rfl (wpAny_updateSeq e2 rfl (k _ J2) (Nat.le_trans (by decide : 1 ≤ 1) (by rw [sizeLine_eq]; decide)) (Nat.zero_le _)))
theorem extendO (hh : A1.handled = none) (sb : Sub X (n + 1) A1.in1) (p : IterP X C fl mk n m fi flA fdI fdL psI psL) (good : Good X A1.in1 mk) (hmk : mk u S) (I : Inv X pins σ H s) (ha : H a = some (.ins C dx fs)) (hfl : fs.lookup fl = some u) (hq : H q = some (.lst [])) (ok : S.ok H) (nq : S.src ≠ q)
    (hs : ∀ it, H it = none → askLen X.K X.mg m S a q it H Q) (done : ∀ s' H', Inv X pins σ H' s' → Q (.ref q) H' → Rs (.ok (.ret .none)) s') :
    wpAny (model X.prog X.w) A1.in1 (Builtin.List.listExtendWith (.ref q) (.ref a) .none) (fun fin s' => match fin with
      | .done f => Rs (.ok f) s'
      | .again c => c.quiet = true ∧ codeAny (model X.prog X.w) A1 c Rs s') (fun e s' => Rs (.error e) s') s := by
  obtain ⟨mild, gd⟩ := good u S hmk
  have qa : q ≠ a := fun z => by rw [z, ha] at hq; cases hq
  have other : (Builtin.List.listSameRef (.ref q) (.ref a) || Value.ref C == Value.type "list" || Value.ref C == Value.type "tuple") = false := by
    rw [show Builtin.List.listSameRef (.ref q) (.ref a) = false from by simp [Builtin.List.listSameRef, qa]]
    rfl
  have self : Vals [V.ref a] [Value.ref a] := .cons rfl .nil
  obtain ⟨_, _, J⟩ := inst_of I ha
  obtain ⟨_, fr⟩ := I.fr
  unfold Builtin.List.listExtendWith
  refine wpAny_bind (J.type.here ?_)
  rw [if_neg (by rw [other]; exact Bool.false_ne_true)]
  refine wpAny_bind (PySem.W.owit_iter fr I.ok.mod.kin J p.cls.it p.cls.itF (wpAny_mono (call_un (Q := fun v H' => ∃ it, v = .ref it ∧ H it = none ∧ H' = upd H it (S.at it 0)) (sb.mono (Nat.le_succ n)) p.FI p.bI I self ⟨a, dx, fs, u, S, rfl, ha, hfl, hmk, ok, fun it z => ⟨it, rfl, z, rfl⟩⟩) ?_ fun _ _ z => z.elim))
  rintro _ s1 ⟨_, _, I1, r1, ⟨it, rfl, hit, rfl⟩, un⟩
  cases r1
  -- the iterator is new
  have new : s.heap.get? it = none := by
    cases e : s.heap.get? it with
    | none => rfl
    | some o =>
      have := un.free it o e hit (fun z => nomatch z)
      rw [upd_same] at this
      cases this
  obtain ⟨⟨oS, alive⟩, st⟩ := gd I ok
  have Y := st it new
  have ns : S.src ≠ it := fun z => by rw [z, new] at alive; cases alive
  have ni : q ≠ it := fun z => by rw [z, hit] at hq; cases hq
  have na : a ≠ it := fun z => by rw [z, hit] at ha; cases ha
  obtain ⟨T, im, ty, slot⟩ := Y.ty I1 upd_same
  unfold PySem.W.OwitIt
  refine wpAny_specialOf (name := Str.ofString "__next__") ty slot.lookup ?_
  have ha1 : upd H it (S.at it 0) a = some (.ins C dx fs) := by rw [upd_ne na]; exact ha
  obtain ⟨_, _, J1⟩ := inst_of I1 ha1
  obtain ⟨_, fr1⟩ := I1.fr
  have owed := hs it hit
  unfold askLen at owed
  rw [← p.one] at owed
  dsimp only
  refine wpAny_bind (wpAny_holding (hintO p.cls.ln I1.kIn J1 (PySem.W.len_K fr1 I1.ok.mod.kin J1 p.cls.ln p.cls.lnF (wpAny_mono (call_un (Sub.in1 sb) p.FL.ok p.bL I1 self owed) ?_ fun _ _ z => z))))
  rintro _ s2 ⟨_, H2, I2, r2, ⟨i, rfl, lo, hi, hq2, hi2, ok2, few, q2⟩, _⟩
  obtain ⟨t, rfl⟩ := r2
  have below : (i : Int) < 2 ^ 63 := by have : i ≤ (16777216 : Nat) := hi; omega
  refine ⟨⟨lo, below⟩, i, _, rfl, lo, hi, ?_⟩
  have run : ∀ s3, Inv X pins σ H2 s3 → codeAny (model X.prog X.w) A1 (.builtin "list.extend.loop" ⟨[.ref q, .ref it, .none], []⟩) Rs s3 := fun s3 I3 => by
    refine fill (S := S) (H0 := H2) Y ni few (fun i ys => mild.ok ok2 (sofar_other ns nq)) (fun i ys j v y => mild.yl y fun b xs e => ?_) (fun s4 ys e al I4 => done s4 _ I4 (q2 ys e al)) S.len 0 [] s3 (Nat.zero_add _) rfl (fun j v e => by simp at e) ?_
    · by_cases b1 : b = it
      · rw [b1, sofar_it ni] at e; cases e
      · by_cases b2 : b = q
        · subst b2
          unfold sofar at e
          rw [upd_same] at e; cases e
        · rwa [sofar_other b1 b2] at e
    · have same : sofar S H2 it q 0 [] = H2 := by
        funext b
        by_cases b2 : b = q
        · subst b2
          exact upd_same.trans hq2.symm
        · by_cases b1 : b = it
          · rw [b1, sofar_it ni, hi2]
          · exact sofar_other b1 b2
      rwa [same]
  have go : ∀ s3, Inv X pins σ H2 s3 → wpAny (model X.prog X.w) A1.in1 (again (.builtin "list.extend.loop" ⟨[.ref q, .ref it, .none], []⟩)) (fun fin s' => match fin with
      | .done f => Rs (.ok f) s'
      | .again c => c.quiet = true ∧ codeAny (model X.prog X.w) A1 c Rs s') (fun e s' => Rs (.error e) s') s3 := fun s3 I3 => wpAny_pure ⟨plainId_quiet PySem.F.plain_extend_loop _, run s3 I3⟩
  have I2' := I2.tok (s2.toks + 1)
  exact wpAny_ite_split (fun _ => touch I2' hq2 go) fun _ => go _ I2'
theorem call_listO (p : IterP X C fl mk n m fi flA fdI fdL psI psL) (good : Good X X.A.in1.in1 mk) (hr : Room (n + 3) X.A) : CallR X (.type "list") (rListO X.K X.mg C fl mk m) := by
  rintro pins s σ H xs us Q I rv ⟨a, dx, fs, u, S, rfl, ha, hfl, hmk, ok, hs⟩
  obtain ⟨_, rfl, ru⟩ := rv.one
  cases ru
  generalize hn : s.heap.objs.size = q at *
  have free : H q = none := I.hok.fresh (Nat.le_of_eq hn)
  obtain ⟨mild, gd⟩ := good u S hmk
  have nq : S.src ≠ q := fun z => by
    obtain ⟨o, e⟩ := (gd I ok).1
    rw [z] at e
    have lt := Heap.lt_size e
    rw [hn] at lt
    exact Nat.lt_irrefl _ lt
  let s1 : Shared := { s with heap := s.heap.push { cls := .type "list", data := .seq #[] } }
  have laid : s1.heap.get? q = some { cls := .type "list", data := .seq #[] } := by rw [← hn]; exact Heap.get?_push_size _ rfl
  have I1 : Inv X pins σ (upd H q (.lst [])) s1 := by rw [← hn]; exact I.lnew (its := []) (t' := s.toks) .nil (Nat.zero_le _)
  have I2 := I1.lset (f := fun _ => #[]) (its := []) (its' := []) (ys := []) (t' := s.toks) upd_same laid rfl .nil (Nat.zero_le _)
  rw [upd_upd] at I2
  refine callType_codes (Q₁ := fun obj s2 => obj = .ref q ∧ s2 = s1) PySem.F.called_list (PySem.F.typeCall_list_1 _) PySem.F.entry_list_init (code_list_new _ ⟨by rw [← hn], rfl⟩) ?_
  rintro _ _ ⟨rfl, rfl⟩
  refine ⟨⟨_, laid, rfl⟩, PySem.F.args_list_init_2 _ _, ?_⟩
  show wpAny _ _ (Builtin.List.listItems (.ref q) >>= fun old => updateSeq q (fun _ => #[]) >>= fun _ => letGo old.toList.reverse >>= fun _ => Builtin.List.listExtendWith (.ref q) (.ref a) .none) _ _ _
  have items : ∀ {P : Array Value → Shared → Prop} {E : Value → Shared → Prop}, P #[] s1 → wpAny (model X.prog X.w) X.A.in1.in1 (Builtin.List.listItems (.ref q)) P E s1 := fun h => by
    unfold Builtin.List.listItems
    exact wpAny_bind (wpAny_seqItems laid rfl (wpAny_pure h))
  refine wpAny_bind (items (wpAny_bind (wpAny_updateSeq laid rfl (f := fun _ => #[]) (wpAny_bind (wpAny_letGo ?_)) (Nat.zero_le _) (Nat.zero_le _))))
  exact extendO (A1 := X.A.in1) (Rs := wants (fun r s₂ => r = .none ∧ EP X pins σ Q (.ref q) s₂) X.xe) (by exact hr.hd) (Sub.in1 (Sub.in1 (⟨hr, rfl⟩ : Sub X (n + 3) X.A))) p good hmk I2 (by rw [upd_ne (ne_of_none ha free)]; exact ha) hfl upd_same (mild.ok ok (upd_ne nq)) nq
    (fun it z => hs q it free (by
      by_cases e : it = q
      · rw [e, upd_same] at z; cases z
      · rwa [upd_ne e] at z) fun e => by rw [← e, upd_same] at z; cases z)
    fun s' H' I' z => ⟨rfl, .ref q, H', I', rfl, z⟩
theorem goodL : X.A.handled = none → Good X X.A.in1.in1 fun u S => ∃ l zs, u = .ref l ∧ S = srcL X.K l zs := by
  rintro hh _ _ ⟨l, zs, rfl, rfl⟩
  refine ⟨mildL, fun {pins σ H s} I ok => ⟨?_, fun it _ => stepsL hh⟩⟩
  obtain ⟨its, _, ⟨o, _, e, _⟩, _⟩ := I.list (show SqL X.K H l zs from ok)
  exact ⟨o, e⟩
end
end Z

set_option Elab.async false
set_option linter.all false
set_option maxRecDepth 100000
/-! Z20: the mirror of list(o). -/
namespace Z
open PySem PySem.Spec PyProof.Rows L2
section
variable {K : PySem.W.Frag} {mg : Str → Option Value} {ea : EA} {io io' : List Addr} {Fr Fr' Fr2 : Addr → Prop} {s s' s2 : S} {σ σ' : L2.St} {H H' : Hp} {w : W} {v : V} {c c' : Cell} {o o' : HO} {a p C : Addr} {ws : List W} {vs : List V} {M M' : Addr → Prop} {Wx : WX}
/-- private objects change; fewer are private -/
theorem Sim.change (x : Sim K mg ea io Fr' s σ H) (sub : ∀ b, Fr2 b → Fr' b) (keep : ∀ b o, H b = some o → ¬ Ms io Fr' s σ b → H' b = some o)
    (same : ∀ b, (b ∈ io ∨ ∃ (i : Nat) (c : Cell), s.r[i]? = some (.own c) ∧ σ[i]? = some (some (V.ref b))) → H' b = H b) (tr : ∀ b, Fr2 b → ∃ o, H' b = some o ∧ Nt o) : Sim K mg ea io Fr2 s σ H' := by
  have q : Pers io (Ms io Fr' s σ) H io (Ms io Fr2 s σ) H' := ⟨keep, fun b z => .inl (Ms.mono sub b z), fun _ _ e => e⟩
  refine ⟨x.len, ⟨x.g.len, fun n b c h1 h2 => ?_, x.g.nd, fun b hb z => x.g.dj b hb (FrO.mono sub b z), fun b z => ?_⟩, fun i u e => ?_, fun i d e => ?_, x.dist, fun i y e => ?_⟩
  · obtain ⟨o, h3, h4⟩ := x.g.cell n b c h1 h2
    exact ⟨o, by rw [same b (.inl (List.mem_of_getElem? h1))]; exact h3, h4.pers q⟩
  · rcases z with z | ⟨i, d, h1, h2⟩
    · exact tr b z
    · obtain ⟨b', o, k1, k2, k3, _⟩ := x.own i d h1
      rw [h2] at k1; cases k1
      exact ⟨o, by rw [same b (.inr ⟨i, d, h1, h2⟩)]; exact k2, k3.nt⟩
  · obtain ⟨v, h1, h2⟩ := x.val i u e
    exact ⟨v, h1, h2.pers q⟩
  · obtain ⟨b, o, h1, h2, h3, h4⟩ := x.own i d e
    exact ⟨b, o, h1, by rw [same b (.inr ⟨i, d, e, h1⟩)]; exact h2, h3.pers q, fun z => h4 (sub b z)⟩
  · obtain ⟨h1, h2⟩ := x.exc i y e
    exact ⟨h1, h2.pers q⟩
/-- the list that stands in a field, the list that is told of a dict's field -/
def fldS (nm fl : Str) (rd : W → Option (List W)) : W → Option (List W)
  | .obj nm' fs => if nm' = nm then (fs.lookup fl).bind rd else none
  | _ => none
def rdL : W → Option (List W)
  | .lst zs => if zs.length ≤ sz then some zs else none
  | .frl zs => if zs.length ≤ sz then some zs else none
  | _ => none
def listO (nm fl : Str) (rd : W → Option (List W)) (m : Fn) : List W → Mo RV
  | [w] => fun s => match (derefW s w).bind (fldS nm fl rd) with
    | some zs => (match callG m [w] s with
      | some (.ok (.val (.int n)), s') => if 0 ≤ n ∧ n ≤ sz then some (.ok (.own (.lst zs)), s') else none
      | _ => none)
    | none => none
  | _ => stk
def mListS (nm fl : Str) (rd : W → Option (List W)) (m : Fn) (ms : Mo (List RV)) : Mo RV := bnd ms fun xs => bnd (freezeAll xs) fun ws => listO nm fl rd m ws
def mListO (nm fl : Str) (m : Fn) (ms : Mo (List RV)) : Mo RV := mListS nm fl rdL m ms
/-- a reader that tells the sources by mk -/
def RdOk (K : PySem.W.Frag) (mg : Str → Option Value) (mk : V → Src → Prop) (rd : W → Option (List W)) : Prop := ∀ {io : List Addr} {M : Addr → Prop} {H : Hp} {w : W} {v : V} {zs : List W}, Rw K mg io M H w v → rd w = some zs →
  ∃ S, mk v S ∧ S.ok H ∧ S.len = zs.length ∧ zs.length ≤ sz ∧ ∀ {io' : List Addr} {M' : Addr → Prop} {H' : Hp}, Pers io M H io' M' H' → (∀ b, M' b → ∃ o, H' b = some o ∧ Nt o) → S.ok H' ∧ ∀ ys, ys.length = S.len → S.all ys H' → Rws K mg io' M' H' zs ys
theorem rdL_ok : RdOk K mg (fun u S => ∃ l zs, u = .ref l ∧ S = srcL K l zs) rdL := by
  intro io M H w v zs R e
  have two : ∀ {l : Addr} {vs : List V}, v = .ref l → zs.length ≤ sz → SqL K H l vs → Rws K mg io M H zs vs → (∀ {io' : List Addr} {M' : Addr → Prop} {H' : Hp}, Pers io M H io' M' H' → SqL K H' l vs) → ∃ S, (∃ l zs, v = .ref l ∧ S = srcL K l zs) ∧ S.ok H ∧ S.len = zs.length ∧ zs.length ≤ sz ∧
      ∀ {io' : List Addr} {M' : Addr → Prop} {H' : Hp}, Pers io M H io' M' H' → (∀ b, M' b → ∃ o, H' b = some o ∧ Nt o) → S.ok H' ∧ ∀ ys, ys.length = S.len → S.all ys H' → Rws K mg io' M' H' zs ys := by
    rintro l vs rfl few sq rw stay
    refine ⟨srcL K l vs, ⟨l, vs, rfl, rfl⟩, sq, rw.1.symm, few, fun p _ => ⟨stay p, fun ys e al => ?_⟩⟩
    have same : ys = vs := List.ext_getElem? fun j => by
      by_cases jl : j < ys.length
      · rw [List.getElem?_eq_getElem jl]
        exact (al j _ (List.getElem?_eq_getElem jl)).symm
      · rw [List.getElem?_eq_none (by omega), List.getElem?_eq_none (by have : ys.length = vs.length := e; omega)]
    rw [same]
    exact rw.pers p
  unfold rdL at e
  split at e
  · split at e
    · rename_i few
      cases e
      cases R with
      | lst h n l q => exact two rfl few (.inl (.inl h)) ⟨l, q⟩ fun p => .inl (.inl (p.keep _ _ h n))
    · cases e
  · split at e
    · rename_i few
      cases e
      cases R with
      | frl h l q =>
        rcases h with ⟨h, n⟩ | h
        · exact two rfl few (.inl h) ⟨l, q⟩ fun p => .inl (p.rd h n)
        · exact two rfl few (.inr h) ⟨l, q⟩ fun p => .inr h
    · cases e
  · cases e
theorem fldS_ok {nm fl : Str} {mk : V → Src → Prop} {rd : W → Option (List W)} {zs : List W} (hC : mg nm = some (.ref C)) (ok : RdOk K mg mk rd) (R : Rn K mg io M H w v) (e : fldS nm fl rd w = some zs) : ∃ a dx fs u S, v = .ref a ∧ H a = some (.ins C dx fs) ∧ fs.lookup fl = some u ∧ mk u S ∧ S.ok H ∧ S.len = zs.length ∧ zs.length ≤ sz ∧
    ∀ {io' : List Addr} {M' : Addr → Prop} {H' : Hp}, Pers io M H io' M' H' → (∀ b, M' b → ∃ o, H' b = some o ∧ Nt o) → S.ok H' ∧ ∀ ys, ys.length = S.len → S.all ys H' → Rws K mg io' M' H' zs ys := by
  unfold fldS at e
  split at e
  · rename_i nm' fs
    split at e
    · rename_i hn
      subst hn
      obtain ⟨a, C', dx, us, rfl, hm, hH, rk⟩ := R.obj
      rw [hC] at hm
      cases hm
      obtain ⟨x, hlk, hx⟩ := Option.bind_eq_some_iff.mp e
      obtain ⟨u, h1, h2⟩ := Rkv.lookup (vs := us) rk hlk
      obtain ⟨S, g⟩ := ok h2 hx
      exact ⟨a, dx, us, u, S, rfl, hH, h1, g⟩
    · cases e
  · cases e
theorem ref_listS {nm fl : Str} {mk : V → Src → Prop} {rd : W → Option (List W)} {m : Fn} {t : TA} {ms : Mo (List RV)} (hC : mg nm = some (.ref C)) (rok : RdOk K mg mk rd) (ha : RefA K mg ea Wx t ms) : RefE K mg ea Wx (fun σ H Q => t σ H fun vs H1 => rListO K mg C fl mk m vs H1 Q) (mListS nm fl rd m ms) := by
  intro σ H io Fr s S0 r0 s' e Q hok hex
  refine arg2 ha S0 e hex fun xs vs s1 H1 io1 e2 px R1 => ?_
  rcases bnd_some e2 with ⟨x, e3, rfl⟩ | ⟨ws, s2, e3, e4⟩
  · obtain ⟨_, _, _, _, q, _⟩ := freezeAll_ok px.1 R1 e3
    cases q
  · obtain ⟨_, m2, S2, ws', q, r2⟩ := freezeAll_ok px.1 R1 e3
    cases q
    have T2 := px.2.less m2
    unfold listO at e4
    split at e4
    case h_2 => cases e4
    rename_i w
    split at e4
    case h_2 => cases e4
    rename_i zs hzs
    split at e4
    case h_2 => cases e4
    rename_i n s3 hcall
    split at e4
    case isFalse => cases e4
    rename_i hn
    cases e4
    obtain ⟨wv, k1, k2⟩ := Option.bind_eq_some_iff.mp hzs
    obtain ⟨v, rr, rfl, h1, h2⟩ := r2.cons_inv
    obtain rfl := h2.nil_inv
    obtain ⟨a, dx, fs, u, Z, rfl, hH, hlk, hmk, hz, hlen, few, stay⟩ := fldS_ok hC rok (deref_ok S2 h1 k1) k2
    refine ⟨a, dx, fs, u, Z, rfl, hH, hlk, hmk, hz, fun q it hq hit hne => ?_⟩
    obtain ⟨S3, T3, nf3⟩ := S2.alloc (o := .lst []) hq
    have hit3 : upd H1 q (.lst []) it = none := by rw [upd_ne (Ne.symm hne)]; exact hit
    obtain ⟨S4, T4, nf4⟩ := S3.alloc (o := Z.at it 0) hit3
    have T34 : Stp io1 (Ms io1 Fr s2 σ) Fr H1 io1 (Ms io1 (pls (pls Fr q) it) s2 σ) (upd (upd H1 q (.lst [])) it (Z.at it 0)) := T3.trans (T4.frless fun b z => .inl z)
    have R4 := r2.pers T34.p
    refine spM_use (n := 1) (Wx := fun _ _ _ _ => False) (σ := σ) S4 R4 rfl hcall (fun x q' v H2 io2 p2 => ?_) (fun _ q' => by cases q')
    cases q'
    obtain ⟨S5, T5, R5⟩ := p2
    cases R5
    have hq2 : H2 q = some (.lst []) := by rw [T5.fr q (.inl (.inr rfl)), upd_ne hne, upd_same]
    have hi2 : H2 it = some (Z.at it 0) := by rw [T5.fr it (.inr rfl), upd_same]
    have T35 := T34.trans (T5.frless (Fr' := Fr) fun b z => .inl (.inl z))
    obtain ⟨okZ, rows⟩ := stay T35.p fun b z => S5.trkN z
    refine ⟨n, rfl, hn.1, hn.2, hq2, hi2, okZ, by rw [hlen]; exact few, fun vs lv al => ?_⟩
    have nio : ∀ b, (b = q ∨ b = it) → ¬ (b ∈ io2 ∨ ∃ (i : Nat) (c : Cell), s'.r[i]? = some (.own c) ∧ σ[i]? = some (some (V.ref b))) := fun b hb z => by
      have hF : pls (pls Fr q) it b := hb.elim (fun e => .inl (.inr e)) .inr
      rcases z with z | ⟨i, c, h1, h2⟩
      · exact S5.g.dj b z (.inl hF)
      · obtain ⟨b', o, k1, _, _, k4⟩ := S5.own i c h1
        rw [h2] at k1; cases k1
        exact k4 hF
    have nFr : ∀ b, (b = q ∨ b = it) → ¬ Fr b := fun b hb z => by
      obtain ⟨o, ho, _⟩ := S2.g.fr b (.inl z)
      rcases hb with rfl | rfl
      · rw [hq] at ho; cases ho
      · rw [hit] at ho; cases ho
    have S6 : Sim K mg ea io2 (pls Fr q) s' σ (upd (put H2 it (Z.fin it)) q (.lst vs)) := by
      refine S5.change (fun b z => .inl z) (fun b o hb hM => ?_) (fun b hb => ?_) (fun b z => ?_)
      · have n1 : b ≠ q := fun z => hM (.inr (.inl (.inl (.inr z))))
        have n2 : b ≠ it := fun z => hM (.inr (.inl (.inr z)))
        rw [upd_ne n1, put_ne n2]; exact hb
      · have n1 : b ≠ q := fun z => nio b (.inl z) hb
        have n2 : b ≠ it := fun z => nio b (.inr z) hb
        rw [upd_ne n1, put_ne n2]
      · rcases z with z | z
        · have n1 : b ≠ q := fun e => nFr b (.inl e) z
          have n2 : b ≠ it := fun e => nFr b (.inr e) z
          obtain ⟨o, ho, n⟩ := S5.g.fr b (.inl (.inl (.inl z)))
          exact ⟨o, by rw [upd_ne n1, put_ne n2]; exact ho, n⟩
        · exact ⟨_, by rw [z, upd_same], by intro _ z; cases z⟩
    have T6 : Stp io1 (Ms io1 Fr s2 σ) Fr H1 io2 (Ms io2 (pls Fr q) s' σ) (upd (put H2 it (Z.fin it)) q (.lst vs)) := by
      refine ⟨⟨fun b o hb hM => ?_, fun b z => T35.p.new b (Ms.mono (fun b z => .inl z) b z), T35.p.ext⟩, fun b z => ?_, fun b o hb => ?_⟩
      · have n1 : b ≠ q := fun e => by subst e; rw [hq] at hb; cases hb
        have n2 : b ≠ it := fun e => by subst e; rw [hit] at hb; cases hb
        rw [upd_ne n1, put_ne n2]; exact T35.p.keep b o hb hM
      · have n1 : b ≠ q := fun e => nFr b (.inl e) z
        have n2 : b ≠ it := fun e => nFr b (.inr e) z
        rw [upd_ne n1, put_ne n2]; exact T35.fr b z
      · have n1 : b ≠ q := fun e => by subst e; rw [hq] at hb; cases hb
        have n2 : b ≠ it := fun e => by subst e; rw [hit] at hb; cases hb
        rw [upd_ne n1, put_ne n2]; exact T35.trk b o hb
    have p6 : Pers io2 (Ms io2 (pls (pls Fr q) it) s' σ) H2 io2 (Ms io2 (pls Fr q) s' σ) (upd (put H2 it (Z.fin it)) q (.lst vs)) := by
      refine ⟨fun b o hb hM => ?_, fun b z => .inl (Ms.mono (fun b z => .inl z) b z), fun _ _ e => e⟩
      have n1 : b ≠ q := fun z => hM (.inr (.inl (.inl (.inr z))))
      have n2 : b ≠ it := fun z => hM (.inr (.inl (.inr z)))
      rw [upd_ne n1, put_ne n2]; exact hb
    refine hok _ rfl _ _ io2 ⟨q, .lst vs, rfl, upd_same, fun z => ?_, S6, T2.trans T6, vs, rfl, (rows vs lv al).pers p6⟩
    rcases z with z | z
    · exact nFr q (.inl rfl) z
    · exact nio q (.inl rfl) (.inr z)
end
section
variable {X : Cx} {ea : EA} {Wx : WX} {m : Fn} {k n : Nat} {f C fi flA : Addr} {fdI fdL : FuncData} {psI psL : List Str} {nm fl : Str} {e : Expr} {ms : Mo (List RV)} {pos p : Pos} {mk : V → Src → Prop} {rd : W → Option (List W)}
theorem pee_listS (hC : X.mg nm = some (.ref C)) (rok : RdOk X.K X.mg mk rd) (good : Good X X.A.in1.in1 mk) (pt : IterP X C fl mk n m fi flA fdI fdL psI psL) (hr : Room (n + 3) X.A) (hm : X.mg "list" = none) (ha : Pea X ea Wx [e] ms) (hg : Gl X "list" := by rfl) (hv : bootBuiltins "list" = some (.type "list") := by decide +kernel)
    (st : starEach [e] X.env = (false, eval e X.env) :: starEach [] X.env := by rfl) (npl : (backTo pos (starEach [] X.env)).any (·.1) = false := by rfl) : Pee X ea Wx (.Call (.Name "list" p) [e] [] pos) (mListS nm fl rd m ms) :=
  let ⟨_, q1, r1⟩ := ha.ex; ⟨_, pe_callTy (call_listO pt good hr) hg hm hv q1 (by decide) (by decide) st npl, ref_listS hC rok r1⟩
theorem pee_listO (hC : X.mg nm = some (.ref C)) (hc : IterC X.K C fi flA) (FI : FnOk X.prog X.w X.K X.mg X.base (L2.CX X.prog X.w) n fi fdI psI (spIt C fl fun u S => ∃ l zs, u = .ref l ∧ S = srcL X.K l zs)) (bI : Binds X.K fdI psI [])
    (FL : FnM X.prog X.w X.K X.mg X.base n flA fdL psL m) (hp : psL.length = 1) (bL : Binds X.K fdL psL []) (hr : Room (n + 3) X.A) (hm : X.mg "list" = none) (ha : Pea X ea Wx [e] ms) (hg : Gl X "list" := by rfl) (hv : bootBuiltins "list" = some (.type "list") := by decide +kernel)
    (st : starEach [e] X.env = (false, eval e X.env) :: starEach [] X.env := by rfl) (npl : (backTo pos (starEach [] X.env)).any (·.1) = false := by rfl) : Pee X ea Wx (.Call (.Name "list" p) [e] [] pos) (mListO nm fl m ms) :=
  pee_listS hC rdL_ok (goodL hr.hd) ⟨hc, FI, bI, FL, hp, bL⟩ hr hm ha hg hv st npl
end
end Z

set_option Elab.async false
set_option linter.all false
set_option maxRecDepth 100000
/-! Z21: def __iter__(self): return iter(self.f). -/
namespace Z
open PySem PySem.Spec PyProof.Rows L2
/-- iter(self.f); ci is the rule of the built-in -/
theorem defItS {P : Program} {w : World} {K : PySem.W.Frag} {mg : Str → Option Value} {base : Heap} {x qual fl self : Str} {st : Stmt} {f C : Addr} {fd : FuncData} {p1 p2 p3 p4 p5 : Pos} {mk : V → Src → Prop} (F : Fun K x qual st f fd) (S : FnScope [self] [self] (defScope st))
    (hb : defBody st = [.Return (some (.Call (.Name "iter" p1) [.Attribute (.Name self p2) fl p3] [] p4)) p5]) (hC : Cls K C) (hno : NoAttr K C fl) (hm : mg "iter" = none)
    (hloc : (defScope st).names.lookup self = some .local) (hgl : ∀ (n : Addr) (cd : Value), (envOfC qual (defScope st) n f cd).kindOf "iter" = some .globalImplicit)
    (hat : ∀ env, attributeBase (.Name self p2) fl env (eval (.Name self p2) env) = eval (.Name self p2) env) (hst : ∀ env, starEach [.Attribute (.Name self p2) fl p3] env = (false, eval (.Attribute (.Name self p2) fl p3) env) :: starEach [] env)
    (ci : ∀ X : Cx, X.K = K → CallR X (.builtin "iter") fun xs H Q => ∃ u Z, xs = [u] ∧ mk u Z ∧ Z.ok H ∧ ∀ it, H it = none → Q (.ref it) (upd H it (Z.at it 0)))
    (hd : (self == ("__debug__" : Str)) = false := by decide) (hcd : (self == ("__classdict__" : Str)) = false := by decide) : FnOk P w K mg base (L2.CX P w) 1 f fd [self] (spIt C fl mk) := by
  refine F.okX S (by rintro vs H Q E ⟨_, _, _, _, _, rfl, _⟩; rfl) fun cdv A outer s H vs Q E hr h => ?_
  obtain ⟨a, dx, fs, u, Z, rfl, ha, hlk, hmk, ok, q⟩ := h
  rw [hb]
  let X := cxOf (L2.CX P w) P w K mg base [self] qual (defScope st) f cdv A outer s H E
  have me : PE X (.Name self p2) (tVar 0) := pe_var rfl (.inl hloc) hd hcd
  have call := pe_callB (X := X) (p := p1) (pos := p4) (x := "iter") (ci X rfl) (hgl _ _) hm (by decide +kernel) (pa_cons (pe_fld (f := fl) (pos := p3) me (hat _)) pa_nil (hst _)) (by decide) (by decide) (hst _) rfl
  exact ⟨_, pss_one (ps_ret call), .ref a, rfl, a, C, dx, fs, u, rfl, ha, hC, hno, hlk, u, Z, rfl, hmk, ok, fun it hit => q it hit⟩
theorem defIt {P : Program} {w : World} {K : PySem.W.Frag} {mg : Str → Option Value} {base : Heap} {x qual fl self : Str} {st : Stmt} {f C : Addr} {fd : FuncData} {p1 p2 p3 p4 p5 : Pos} (F : Fun K x qual st f fd) (S : FnScope [self] [self] (defScope st))
    (hb : defBody st = [.Return (some (.Call (.Name "iter" p1) [.Attribute (.Name self p2) fl p3] [] p4)) p5]) (hC : Cls K C) (hno : NoAttr K C fl) (hm : mg "iter" = none)
    (hloc : (defScope st).names.lookup self = some .local) (hgl : ∀ (n : Addr) (cd : Value), (envOfC qual (defScope st) n f cd).kindOf "iter" = some .globalImplicit)
    (hat : ∀ env, attributeBase (.Name self p2) fl env (eval (.Name self p2) env) = eval (.Name self p2) env) (hst : ∀ env, starEach [.Attribute (.Name self p2) fl p3] env = (false, eval (.Attribute (.Name self p2) fl p3) env) :: starEach [] env)
    (hd : (self == ("__debug__" : Str)) = false := by decide) (hcd : (self == ("__classdict__" : Str)) = false := by decide) : FnOk P w K mg base (L2.CX P w) 1 f fd [self] (spIt C fl fun u S => ∃ l zs, u = .ref l ∧ S = srcL K l zs) := by
  refine defItS F S hb hC hno hm hloc hgl hat hst (fun X e => ?_) hd hcd
  subst e
  rintro pins s σ H _ us Q I r ⟨_, _, rfl, ⟨l, zs, rfl, rfl⟩, ok, q⟩
  exact call_iterL pins s σ H _ us Q I r ⟨l, zs, rfl, ok, q⟩
end Z

set_option Elab.async false
set_option linter.all false
set_option maxRecDepth 100000
/-! Z22: constants of the module, cells. -/
namespace Z
open PySem PySem.Spec PyProof.Rows L2
section
variable {K : PySem.W.Frag} {mg : Str → Option Value} {ea : EA} {io io' : List Addr} {Fr Fr' Fr2 : Addr → Prop} {s s' s2 : S} {σ σ' : L2.St} {H H' : Hp} {w : W} {v : V} {c c' : Cell} {o o' : HO} {a p C : Addr} {ws : List W} {vs : List V} {M M' : Addr → Prop} {Wx : WX}
theorem ms_cell : ∀ b, Ms (io ++ [a]) Fr { s with G := s.G ++ [c] } σ b → Ms io (pls Fr a) s σ b := fun b z => by
  rcases z with z | z
  · rcases List.mem_append.mp z with z | z
    · exact .inl z
    · exact .inr (.inl (.inr (by simpa using z)))
  · exact .inr (FrO.mono (fun b z => .inl z) b z)
/-- an owned object becomes a cell -/
theorem Sim.cell (x : Sim K mg ea io (pls Fr a) s σ H) (ha : H a = some o) (nf : ¬ FrO Fr s.r σ a) (hc : Rc K mg io (Ms io (pls Fr a) s σ) H c o) :
    Sim K mg ea (io ++ [a]) Fr { s with G := s.G ++ [c] } σ H ∧ Stp io (Ms io (pls Fr a) s σ) (pls Fr a) H (io ++ [a]) (Ms (io ++ [a]) Fr { s with G := s.G ++ [c] } σ) H := by
  have q : Pers io (Ms io (pls Fr a) s σ) H (io ++ [a]) (Ms (io ++ [a]) Fr { s with G := s.G ++ [c] } σ) H := ⟨fun _ _ h _ => h, fun b z => .inl (ms_cell b z), fun n b h => by rw [List.getElem?_append_left (get_lt h)]; exact h⟩
  have nio : a ∉ io := fun z => x.g.dj a z (.inl (.inr rfl))
  refine ⟨⟨x.len, ⟨by simp [x.g.len], fun n b d h1 h2 => ?_, ?_, fun b hb z => ?_, fun b z => x.g.fr b (FrO.mono (fun b z => .inl z) b z)⟩, fun i u e => ?_, fun i d e => ?_, x.dist, fun i y e => ?_⟩, q, fun b z => rfl, fun b u e => ⟨u, e⟩⟩
  · rcases Nat.lt_or_ge n io.length with hn | hn
    · rw [List.getElem?_append_left hn] at h1
      rw [List.getElem?_append_left (by rw [← x.g.len]; exact hn)] at h2
      obtain ⟨o, h3, h4⟩ := x.g.cell n b d h1 h2
      exact ⟨o, h3, h4.pers q⟩
    · rw [List.getElem?_append_right hn] at h1
      rw [List.getElem?_append_right (by rw [← x.g.len]; exact hn)] at h2
      rw [← x.g.len] at h2
      cases k : n - io.length with
      | zero =>
        rw [k] at h1 h2
        simp at h1 h2
        subst h1 h2
        exact ⟨o, ha, hc.pers q⟩
      | succ m => rw [k] at h1; simp at h1
  · rw [List.nodup_append]
    exact ⟨x.g.nd, by simp, fun b hb c hc => by simp at hc; subst hc; exact fun z => nio (z ▸ hb)⟩
  · rcases List.mem_append.mp hb with hb | hb
    · exact x.g.dj b hb (FrO.mono (fun b z => .inl z) b z)
    · simp at hb
      subst hb
      exact nf z
  · obtain ⟨v, h1, h2⟩ := x.val i u e
    exact ⟨v, h1, h2.pers q⟩
  · obtain ⟨b, o, h1, h2, h3, h4⟩ := x.own i d e
    exact ⟨b, o, h1, h2, h3.pers q, fun z => h4 (.inl z)⟩
  · obtain ⟨h1, h2⟩ := x.exc i y e
    exact ⟨h1, h2.pers q⟩
/-- a result that others will change -/
def toCell : RV → Mo RV
  | .own c => fun s => some (.ok (.val (.ref s.G.length)), { s with G := s.G ++ [c] })
  | _ => stk
def mCell (m : Mo RV) : Mo RV := bnd m toCell
theorem ref_cell {t : TE} {m : Mo RV} (h : RefE K mg ea Wx t m) : RefE K mg ea Wx t (mCell m) := by
  intro σ H io Fr s S0 r0 s' e Q hok hex
  rcases bnd_some e with ⟨x, e1, rfl⟩ | ⟨x, s1, e1, e2⟩
  · exact h σ H io Fr s S0 _ _ e1 _ (fun _ q => by cases q) fun x' q cls d H' io' px => by
      cases q
      exact hex _ rfl cls d H' io' px
  · refine h σ H io Fr s S0 _ _ e1 _ (fun x' q v H1 io1 px => ?_) (fun _ q => by cases q)
    cases q
    cases x with
    | val w => cases e2
    | hnd i => cases e2
    | own c =>
      cases e2
      obtain ⟨a, o, rfl, ha, nf, S1, T1, R1⟩ := px
      obtain ⟨S2, T2⟩ := S1.cell ha nf R1
      refine hok _ rfl _ H1 _ ⟨S2, T1.trans (T2.frless fun b z => .inl z), .ref ?_⟩
      rw [← S1.g.len]
      simp
end
section
variable {X : Cx} {ea : EA} {Wx : WX} {e : Expr} {m : Mo RV} {x : Str} {pos : Pos}
theorem pee_cell (h : Pee X ea Wx e m) : Pee X ea Wx e (mCell m) := let ⟨_, p, r⟩ := h.ex; ⟨_, p, ref_cell r⟩
theorem pee_gint {i : Int} (hm : ∃ t, X.mg x = some (.int i t)) (hg : Gl X x := by rfl) (hd : (x == ("__debug__" : Str)) = false := by decide) : Pee X ea Wx (.Name x pos) (mC (.int i)) :=
  let ⟨_, h⟩ := hm; ⟨_, pe_glob (v := .int i) hg h ⟨_, rfl⟩ hd, ref_c fun _ _ _ => .int i⟩
end
end Z

set_option Elab.async false
set_option linter.all false
set_option maxRecDepth 100000
/-! Z23: what the printed derivations lean on. -/
namespace Z
open PySem PySem.Spec PyProof.Rows L2
theorem hu64 {n : Nat} (h : n + 150 < cLine) : n + 64 < cLine := by omega
theorem hu65 {n : Nat} (h : n + 150 < cLine) : n + 65 < cLine := by omega
theorem hu1 {n : Nat} (h : n + 150 < cLine) : n + 1 < cLine := by omega
theorem tk0 {X : Cx} : Takes X W0 := fun u s' x => by
  obtain ⟨a, B, sI, pins, σ, H, cls, d, _, _, _, _, _, _, _, _, w⟩ := x
  exact w.elim
theorem rmw {j k : Nat} {A : Around} {h : Option Value} (r : Room k A) (l : j ≤ k) : L2H.RoomH j (A.mark h) := (L2H.RoomH.mono (L2H.roomH_of r) l : L2H.RoomH j A) |> fun q => ⟨q.dp, q.un⟩
theorem FnM.mono {P : Program} {w : World} {K : PySem.W.Frag} {mg : Str → Option Value} {base : Heap} {j k : Nat} {f : Addr} {fd : FuncData} {ps : List Str} {m : Fn} (F : FnM P w K mg base j f fd ps m) (h : j ≤ k) : FnM P w K mg base k f fd ps m := ⟨F.ok.mono h⟩
section
variable {K : PySem.W.Frag} {mg : Str → Option Value} {C : Addr}
theorem ClsN.nil {f : Str} : ClsN K mg [] f := fun nm h => by cases h
theorem ClsN.cons {f nm : Str} {nms : List Str} (hm : mg nm = some (.ref C)) (c : Cls K C) (n : NoAttr K C f) (r : ClsN K mg nms f) : ClsN K mg (nm :: nms) f := fun x h => by
  rcases List.mem_cons.mp h with rfl | q
  · exact ⟨C, hm, c, n⟩
  · exact r x q
def HdTab (K : PySem.W.Frag) (mg : Str → Option Value) (c : Value) (tbl : List (Str × Bool)) : Prop := ∀ nm b, tbl.lookup nm = some b → ∀ C, mg nm = some (.ref C) → PySem.W.exmOne K (.ref C) c = some b
theorem HdTab.nil {c : Value} : HdTab K mg c [] := fun nm b h => by cases h
theorem HdTab.cons {c : Value} {tbl : List (Str × Bool)} {nm : Str} {b : Bool} (hm : mg nm = some (.ref C)) (h : PySem.W.exmOne K (.ref C) c = some b) (r : HdTab K mg c tbl) : HdTab K mg c ((nm, b) :: tbl) := fun x b' e D hD => by
  rw [List.lookup_cons] at e
  by_cases q : (x == nm) = true
  · have hx : x = nm := eq_of_beq q
    rw [q] at e
    cases e
    subst hx
    rw [hm] at hD
    cases hD
    exact h
  · have q' : (x == nm) = false := by simpa using q
    rw [q'] at e
    exact r x b' e D hD
end
section
variable {P : Program} {w : World} {K : PySem.W.Frag} {mg : Str → Option Value} {base : Heap} {x qual : Str} {st : Stmt} {f : Addr} {fd : FuncData} {N ps : List Str} {k n : Nat} {body : Mo Fl}
theorem defM2 (F : Fun K x qual st f fd) (S : FnScope N ps (defScope st)) (hn : N.length = n)
    (hb : ∀ (cdv : Value) (A : Around) (outer : List Env) (s : Shared) (H : Hp) (E : XK), Room k (A.deeper (envOfC qual (defScope st) s.heap.objs.size f cdv)) → (A.deeper (envOfC qual (defScope st) s.heap.objs.size f cdv)).units + 150 < cLine →
      Takes (cxOf (L2.CX P w) P w K mg base N qual (defScope st) f cdv A outer s H E) (fun cls d _ H => E cls d H) →
      PassesOwn (model P w) (A.deeper (envOfC qual (defScope st) s.heap.objs.size f cdv)) (envOfC qual (defScope st) s.heap.objs.size f cdv) (cxOf (L2.CX P w) P w K mg base N qual (defScope st) f cdv A outer s H E).xe →
      Pess (cxOf (L2.CX P w) P w K mg base N qual (defScope st) f cdv A outer s H E) ea0 (fun cls d _ H => E cls d H) (defBody st) body) : FnM P w K mg base (k + 1) f fd ps (fnM n body) :=
  defM F S hn fun cdv A outer s H E hr => hb cdv A outer s H E hr (by have := hr.un; omega) (takes_of rfl rfl rfl rfl) (passes_of rfl)
theorem defW2 (F : Fun K x qual st f fd) (S : FnScope N ps (defScope st)) (hn : N.length = n)
    (hb : ∀ (cdv : Value) (A : Around) (outer : List Env) (s : Shared) (H : Hp) (E : XK), L2H.RoomH k (A.deeper (envOfC qual (defScope st) s.heap.objs.size f cdv)) → (A.deeper (envOfC qual (defScope st) s.heap.objs.size f cdv)).units + 150 < cLine →
      Takes { cxOf (L2.CX P w) P w K mg base N qual (defScope st) f cdv A outer s H E with calm := false } (fun cls d _ H => E cls d H) →
      PassesOwn (model P w) (A.deeper (envOfC qual (defScope st) s.heap.objs.size f cdv)) (envOfC qual (defScope st) s.heap.objs.size f cdv) (cxOf (L2.CX P w) P w K mg base N qual (defScope st) f cdv A outer s H E).xe →
      Pess { cxOf (L2.CX P w) P w K mg base N qual (defScope st) f cdv A outer s H E with calm := false } ea0 (fun cls d _ H => E cls d H) (defBody st) body) : FnW P w K mg base (k + 1) f fd ps (fnM n body) :=
  defW F S hn fun cdv A outer s H E hr => hb cdv A outer s H E hr (by have := hr.un; omega) (takes_of rfl rfl rfl rfl) (passes_of rfl)
end
section
variable {X : Cx} {ea : EA} {Wx : WX} {pos : Pos} {elt tg iter : Expr} {ifs : List Expr} {scope : Scope} {own : List (Str × Nat)} {mi : Mo Wk} {t : W → Mo Unit} {l : List Nat} {me : Mo RV} {mt : Mo Bool}
/-- name = [..], the list being a cell -/
theorem pes_setLcC (i : Nat) {y : Str} {py spos : Pos} (hN : X.N.Nodup) (hi : Pei X ea Wx tg iter mi) (b : Blk X ea tg elt ifs scope own t l mt me) (hy : X.N[i]? = some y := by rfl) (hyl : X.env.scope.names.lookup y = some .local := by rfl)
    (hsw : swapsWith (.ListComp elt [⟨tg, iter, ifs, 0⟩] scope pos) (some (.Name y py)) spos.line X.env = pure true := by exact sw_true rfl rfl rfl (by decide +kernel)) (hc : X.calm = true := by rfl) (hs : ∀ x, foldedSetIterable iter X.env x = pure x := by intro _; rfl) :
    Pes X ea Wx (.Assign [.Name y py] (.ListComp elt [⟨tg, iter, ifs, 0⟩] scope pos) spos) (mAsg i (mCell (mLc (own.map (·.2)) mi t mt me))) := by
  obtain ⟨wi, p, r⟩ := hi.ex
  exact ⟨_, ps_setLc hc hN hy hyl hsw p b.ok (fun s H C cl fp => (b.tg s H C cl fp).can) (fun s H C cl fp => (b.ts s H C cl fp).can) (fun s H C cl fp => (b.el s H C cl fp).can) hs,
    ref_asg i (ref_cell (ref_lc r (ref_gOf b.ne) b.sub (ref_ttOf _) (ref_tOf _)))⟩
end
section
variable {X : Cx} {ea : EA} {Wx : WX} {e o : Expr} {es : List Expr} {mo : Mo RV} {ms : Mo (List RV)} {m : Fn} {k n : Nat} {f C : Addr} {fd : FuncData} {ps : List Str} {x nm mn : Str} {p pos apos : Pos} {ds : List Value} {dw : List W} {dvs : List V}
theorem pee_callN (hp : ps.length = n) (F : FnM X.prog X.w X.K X.mg X.base k f fd ps m) (hr : Room k X.A) (hm : X.mg x = some (.ref f)) (hk : PySem.W.keepIn X.K (.ref f) = true) (hb : Binds X.K fd ps []) (tk : Takes X Wx) (ha : Pea X ea Wx (e :: es) ms)
    (hg : Gl X x := by rfl) (hdb : (x == ("__debug__" : Str)) = false := by decide) (he : starEach (e :: es) X.env = (false, eval e X.env) :: starEach es X.env := by rfl) (hpl : (backTo pos (starEach es X.env)).any (·.1) = false := by rfl) :
    Pee X ea Wx (.Call (.Name x p) (e :: es) [] pos) (mCall n m ms) := by subst hp; exact pee_call F hr hm hk hb tk ha hg hdb he hpl
theorem pee_callWN (hp : ps.length = n) (F : FnW X.prog X.w X.K X.mg X.base k f fd ps m) (hr : L2H.RoomH k X.A) (hm : X.mg x = some (.ref f)) (hk : PySem.W.keepIn X.K (.ref f) = true) (hb : Binds X.K fd ps []) (ha : Pea X ea Wx (e :: es) ms)
    (hg : Gl X x := by rfl) (hdb : (x == ("__debug__" : Str)) = false := by decide) (he : starEach (e :: es) X.env = (false, eval e X.env) :: starEach es X.env := by rfl) (hpl : (backTo pos (starEach es X.env)).any (·.1) = false := by rfl) :
    Pee X ea Wx (.Call (.Name x p) (e :: es) [] pos) (mCallW n m ms) := by subst hp; exact pee_callW F hr hm hk hb ha hg hdb he hpl
theorem pee_methN {pl : Sem Bool} (hp : ps.length = n) (hC : X.mg nm = some (.ref C)) (c : Cls X.K C) (hm : Meth X.K C mn f) (F : FnM X.prog X.w X.K X.mg X.base k f fd ps m) (hr : Room k X.A) (hb : Binds X.K fd ps ds) (hd : Vals dvs ds) (hw : Dfl X.K X.mg dw dvs) (tk : Takes X Wx) (ho : Pee X ea Wx o mo) (ha : Pea X ea Wx (e :: es) ms)
    (hst : starEach (e :: es) X.env = (false, eval e X.env) :: starEach es X.env := by rfl) (hpl : (backTo pos (starEach es X.env)).any (·.1) = false := by rfl)
    (ht : eval (.Call (.Attribute o mn apos) (e :: es) [] pos) X.env = (do
      let ov ← eval o X.env
      standAt apos.atName
      let (f, first) ← holding [ov] (getMethod ov mn pl)
      callWith pos f first (backTo pos (starEach (e :: es) X.env)) (backToKw pos (keywordEach [] X.env))) := by rfl) :
    Pee X ea Wx (.Call (.Attribute o mn apos) (e :: es) [] pos) (mMeth nm mn n m dw mo ms) := by subst hp; exact pee_meth hC c hm F hr hb hd hw tk ho ha hst hpl ht
theorem pee_meth0N {pl : Sem Bool} (hp : ps.length = n) (hC : X.mg nm = some (.ref C)) (c : Cls X.K C) (hm : Meth X.K C mn f) (F : FnM X.prog X.w X.K X.mg X.base k f fd ps m) (hr : Room k X.A) (hb : Binds X.K fd ps ds) (hd : Vals dvs ds) (hw : Dfl X.K X.mg dw dvs) (tk : Takes X Wx) (ho : Pee X ea Wx o mo)
    (ht : eval (.Call (.Attribute o mn apos) [] [] pos) X.env = (do
      let ov ← eval o X.env
      standAt apos.atName
      let (f, first) ← holding [ov] (getMethod ov mn pl)
      callWith pos f first (backTo pos (starEach [] X.env)) (backToKw pos (keywordEach [] X.env))) := by rfl) :
    Pee X ea Wx (.Call (.Attribute o mn apos) [] [] pos) (mMeth nm mn n m dw mo mNil) := by subst hp; exact pee_meth0 hC c hm F hr hb hd hw tk ho ht
theorem pee_makeN (hp : ps.length = n) (hC : X.mg x = some (.ref C)) (M : Mk X.K C f) (F : FnM X.prog X.w X.K X.mg X.base k f fd ps m) (hr : Room (k + 1) X.A) (hb : Binds X.K fd ps ds) (hd : Vals dvs ds) (hw : Dfl X.K X.mg dw dvs) (tk : Takes X Wx) (ha : Pea X ea Wx (e :: es) ms) (hg : Gl X x := by rfl)
    (hdb : (x == ("__debug__" : Str)) = false := by decide) (he : starEach (e :: es) X.env = (false, eval e X.env) :: starEach es X.env := by rfl) (hpl : (backTo pos (starEach es X.env)).any (·.1) = false := by rfl) :
    Pee X ea Wx (.Call (.Name x p) (e :: es) [] pos) (mMake x n m dw ms) := by subst hp; exact pee_make hC M F hr hb hd hw tk ha hg hdb he hpl
end
end Z

set_option Elab.async false
set_option linter.all false
set_option maxRecDepth 100000
/-! Z24: from the mirror of law to the walk. -/
namespace Z
open PySem PySem.Spec PyProof.Rows L2
def spLaw (K : PySem.W.Frag) : Sp := fun vs H Q _ => ∃ (a : Addr) (ns : List Int), vs = [.ref a] ∧ SqL K H a (ns.map V.int) ∧ ns.length ≤ 63 ∧ (∀ z ∈ ns, Builtin.Int.intBits z ≤ 1048576) ∧ ∀ H', Q (.bl true) H'
/-- the mirror says True of every script -/
def Says (m : Fn) : Prop := ∀ ns : List Int, ns.length ≤ 63 → (∀ z ∈ ns, Builtin.Int.intBits z ≤ 1048576) → ∃ G', m [.frl (ns.map W.int)] [] = some (.ok (.val (.bl true)), G')
theorem law_end {P : Program} {w : World} {K : PySem.W.Frag} {mg : Str → Option Value} {base : Heap} {k : Nat} {f : Addr} {fd : FuncData} {m : Fn} {x : Str} (F : FnM P w K mg base k f fd [x] m) (h : Says m) : FnOk P w K mg base (L2.CX P w) k f fd [x] (spLaw K) := by
  refine F.ok.imp fun vs H Q E hh => ?_
  obtain ⟨a, ns, rfl, hS, hl, hb, hq⟩ := hh
  obtain ⟨G', e⟩ := h ns hl hb
  refine ⟨rfl, [], fun _ => False, [], _, _, G', ?_, Rws.one ?_, e, fun f hf v H' io' p => ?_, fun x hx => by cases hx⟩
  · exact ⟨rfl, fun n a c h1 => by simp at h1, List.nodup_nil, fun a ha => by simp at ha, fun a z => z.elim⟩
  · refine .frl (vs := ns.map V.int) ?_ (by simp) fun i w v h1 h2 => ?_
    · rcases hS with hS | hS
      · exact .inl ⟨hS, fun z => by rcases z with z | z; · simp at z
                                    · exact z⟩
      · exact .inr hS
    · rw [List.getElem?_map] at h1 h2
      cases e1 : ns[i]? with
      | none => rw [e1] at h1; cases h1
      | some z => rw [e1] at h1 h2; cases h1; cases h2; exact .int z
  · cases hf
    obtain ⟨_, _, r⟩ := p
    cases r
    exact hq H'
theorem walkZ {l : PySem.W.OpenLaw} {q : Program} {loose : List Str} {XP : (Str → Option Value) → Heap → Prop} {YP : World → Heap → Prop} {d : DefRec} {K : Params → PySem.W.Frag} {k : Nat} {x : Str} (hn : l.most = some 63) (hdf : d.params.defaults = []) (hr : Room k callerA)
    (hY : ∀ (w : World) (h : Heap), YP w h → (K w.params).In h)
    (F : ∀ (w : World) (mg : Str → Option Value) (fa : Addr) (h : Heap), (K w.params).In h → h.Ns mainGlobals mg → mg d.name = some (.ref fa) →
      ∃ fd : FuncData, (∀ (s : Shared) (u : Value), BindsTo s fd ⟨[u], []⟩ [(x, u)]) ∧ ∀ base : Heap, (K w.params).In base → base.Ns mainGlobals mg → FnOk l.prog w (K w.params) mg base (L2.CX l.prog w) k fa fd [x] (spLaw (K w.params))) :
    PySem.W.WalkO q loose XP YP l.row.toRowW d [] (fun f vs => PySem.call f vs) :=
  L2.walk_ofB (n := 63) (k := k) (x := x) (CX := fun w => L2.CX l.prog w) (sp := fun w => spLaw (K w.params)) hn (by decide) hdf hr hY F (fun _ _ a ns hl hb _ hS => ⟨a, ns, rfl, hS, hl, hb, fun _ => rfl⟩) fun w H s e s' z => by
    obtain ⟨_, _, _, _, _, _, _, _, _, _, _, _, hE⟩ := z
    exact hE
end Z

set_option Elab.async false
set_option linter.all false
set_option maxRecDepth 100000
/-! Z25: a mirror evaluated at a state that is written out. -/
namespace Z
open PySem PySem.Spec PyProof.Rows L2
section
variable {α β : Type} {r : List SV} {G : List Cell} {m ma mb mc mo mv mi me : Mo RV} {ms : Mo (List RV)} {i n : Nat} {w : W} {s : S}
@[simp] theorem bnd_e {m : Mo α} {f : α → Mo β} : bnd m f ⟨r, G⟩ = match m ⟨r, G⟩ with
  | none => none
  | some (.error x, s') => some (.error x, s')
  | some (.ok a, s') => f a s' := rfl
@[simp] theorem ret_e {a : α} : ret a ⟨r, G⟩ = some (.ok a, ⟨r, G⟩) := rfl
@[simp] theorem stk_e : (stk : Mo α) ⟨r, G⟩ = none := rfl
@[simp] theorem raiseM_e {x : Ex} : (raiseM x : Mo α) ⟨r, G⟩ = some (.error x, ⟨r, G⟩) := rfl
@[simp] theorem mName_e : mName i ⟨r, G⟩ = match r[i]? with
  | some (.val w) => some (.ok (.val w), ⟨r, G⟩)
  | some (.own _) => some (.ok (.hnd i), ⟨r, G⟩)
  | _ => none := rfl
@[simp] theorem mC_e : mC w ⟨r, G⟩ = some (.ok (.val w), ⟨r, G⟩) := rfl
@[simp] theorem settle_val : settle (.val w) = .val w := rfl
@[simp] theorem settle_hnd : settle (.hnd i) = .hnd i := rfl
@[simp] theorem settle_own {c : Cell} : settle (.own c) = .val c.toW := rfl
@[simp] theorem look_int {k : Int} : look (.val (.int k)) ⟨r, G⟩ = some (.ok (.int k), ⟨r, G⟩) := rfl
@[simp] theorem look_bl {k : Bool} : look (.val (.bl k)) ⟨r, G⟩ = some (.ok (.bl k), ⟨r, G⟩) := rfl
@[simp] theorem look_non : look (.val .non) ⟨r, G⟩ = some (.ok .non, ⟨r, G⟩) := rfl
@[simp] theorem look_str {k : Str} : look (.val (.str k)) ⟨r, G⟩ = some (.ok (.str k), ⟨r, G⟩) := rfl
@[simp] theorem look_byt {k : Array UInt8} : look (.val (.byt k)) ⟨r, G⟩ = some (.ok (.byt k), ⟨r, G⟩) := rfl
@[simp] theorem look_tup {k : List W} : look (.val (.tup k)) ⟨r, G⟩ = some (.ok (.tup k), ⟨r, G⟩) := rfl
@[simp] theorem look_lst {k : List W} : look (.val (.lst k)) ⟨r, G⟩ = some (.ok (.lst k), ⟨r, G⟩) := rfl
@[simp] theorem look_frl {k : List W} : look (.val (.frl k)) ⟨r, G⟩ = some (.ok (.frl k), ⟨r, G⟩) := rfl
@[simp] theorem look_dK {k : List (Key × W)} : look (.val (.dK k)) ⟨r, G⟩ = some (.ok (.dK k), ⟨r, G⟩) := rfl
@[simp] theorem look_dT {k : List (List Key × W)} : look (.val (.dT k)) ⟨r, G⟩ = some (.ok (.dT k), ⟨r, G⟩) := rfl
@[simp] theorem look_obj {nm : Str} {k : List (Str × W)} : look (.val (.obj nm k)) ⟨r, G⟩ = some (.ok (.obj nm k), ⟨r, G⟩) := rfl
@[simp] theorem look_ref {k : Nat} : look (.val (.ref k)) ⟨r, G⟩ = (G[k]?).map fun c => (.ok c.toW, ⟨r, G⟩) := by
  show ((G[k]?).map Cell.toW).map _ = _
  rw [Option.map_map]; rfl
@[simp] theorem look_hnd : look (.hnd i) ⟨r, G⟩ = match r[i]? with
    | some (.own c) => some (.ok c.toW, ⟨r, G⟩)
    | some (.val w) => (derefW ⟨r, G⟩ w).map fun z => (.ok z, ⟨r, G⟩)
    | _ => none := rfl
@[simp] theorem deref_int {k : Int} : derefW s (.int k) = some (.int k) := rfl
@[simp] theorem deref_tup {k : List W} : derefW s (.tup k) = some (.tup k) := rfl
@[simp] theorem deref_lst {k : List W} : derefW s (.lst k) = some (.lst k) := rfl
@[simp] theorem deref_frl {k : List W} : derefW s (.frl k) = some (.frl k) := rfl
@[simp] theorem deref_dK {k : List (Key × W)} : derefW s (.dK k) = some (.dK k) := rfl
@[simp] theorem deref_dT {k : List (List Key × W)} : derefW s (.dT k) = some (.dT k) := rfl
@[simp] theorem deref_obj {nm : Str} {k : List (Str × W)} : derefW s (.obj nm k) = some (.obj nm k) := rfl
@[simp] theorem deref_ref {k : Nat} : derefW ⟨r, G⟩ (.ref k) = (G[k]?).map Cell.toW := rfl
@[simp] theorem freeze_val : freeze (.val w) ⟨r, G⟩ = some (.ok w, ⟨r, G⟩) := rfl
@[simp] theorem freeze_hnd : freeze (.hnd i) ⟨r, G⟩ = match r[i]? with
    | some (.own c) => some (.ok c.toW, ⟨r.set i (.val c.toW), G⟩)
    | some (.val w) => some (.ok w, ⟨r, G⟩)
    | _ => none := rfl
@[simp] theorem liftO_e {z : OR} : liftO (some z) ⟨r, G⟩ = some (.ok z.toRV, ⟨r, G⟩) := rfl
@[simp] theorem liftO_n : liftO none ⟨r, G⟩ = none := rfl
@[simp] theorem liftB_e {z : Bool} : liftB (some z) ⟨r, G⟩ = some (.ok z, ⟨r, G⟩) := rfl
@[simp] theorem opM_e {f : W → W → Option OR} {x y : RV} : opM f x y ⟨r, G⟩ = bnd (look x) (fun wx => bnd (look y) fun wy => liftO (f wx wy)) ⟨r, G⟩ := rfl
@[simp] theorem mBin_e {f : W → W → Option OR} : mBin f ma mb ⟨r, G⟩ = bnd ma (fun x => bnd mb fun y => opM f (settle x) (settle y)) ⟨r, G⟩ := rfl
@[simp] theorem mUn_e {f : W → Option OR} : mUn f ma ⟨r, G⟩ = bnd ma (fun x => bnd (look (settle x)) fun wx => liftO (f wx)) ⟨r, G⟩ := rfl
@[simp] theorem toB_e {b : Bool} : toB (.val (.bl b)) ⟨r, G⟩ = some (.ok b, ⟨r, G⟩) := rfl
@[simp] theorem mB_e : mB m ⟨r, G⟩ = bnd m toB ⟨r, G⟩ := rfl
@[simp] theorem mTru_e : mTru m ⟨r, G⟩ = bnd m (fun x => bnd (look (settle x)) fun w => liftB (truW w)) ⟨r, G⟩ := rfl
@[simp] theorem mAnd_e {a b : Mo Bool} : mAnd a b ⟨r, G⟩ = bnd a (fun x => if x = true then b else ret false) ⟨r, G⟩ := rfl
@[simp] theorem mOr_e {a b : Mo Bool} : mOr a b ⟨r, G⟩ = bnd a (fun x => if x = true then ret true else b) ⟨r, G⟩ := rfl
@[simp] theorem mNot_e {a : Mo Bool} : mNot a ⟨r, G⟩ = bnd a (fun x => ret (!x)) ⟨r, G⟩ := rfl
@[simp] theorem mIf_e {c : Mo Bool} {a b : Mo Fl} : mIf c a b ⟨r, G⟩ = bnd c (fun x => if x = true then a else b) ⟨r, G⟩ := rfl
@[simp] theorem mIfE_e {c : Mo Bool} {a b : Mo RV} : mIfE c a b ⟨r, G⟩ = bnd c (fun x => if x = true then a else b) ⟨r, G⟩ := rfl
@[simp] theorem mAndV_e : mAndV ma mb ⟨r, G⟩ = bnd (mB ma) (fun x => if x = true then mb else ret (.val (.bl false))) ⟨r, G⟩ := rfl
@[simp] theorem mOrV_e : mOrV ma mb ⟨r, G⟩ = bnd (mB ma) (fun x => if x = true then ret (.val (.bl true)) else mb) ⟨r, G⟩ := rfl
@[simp] theorem mNotV_e : mNotV ma ⟨r, G⟩ = bnd (mB ma) (fun x => ret (.val (.bl (!x)))) ⟨r, G⟩ := rfl
@[simp] theorem mSeq_e {a b : Mo Fl} : mSeq a b ⟨r, G⟩ = match a ⟨r, G⟩ with
  | none => none
  | some (.error x, s') => some (.error x, s')
  | some (.ok .nx, s') => b s'
  | some (.ok .bk, s') => some (.ok .bk, s')
  | some (.ok .ct, s') => some (.ok .ct, s')
  | some (.ok (.rt f), s') => some (.ok (.rt f), s') := by
  unfold mSeq bnd
  cases a ⟨r, G⟩ with
  | none => rfl
  | some p =>
    obtain ⟨q, s'⟩ := p
    cases q with
    | error x => rfl
    | ok f => cases f <;> rfl
@[simp] theorem mNext_e : mNext ⟨r, G⟩ = some (.ok .nx, ⟨r, G⟩) := rfl
@[simp] theorem mBreak_e : mBreak ⟨r, G⟩ = some (.ok .bk, ⟨r, G⟩) := rfl
@[simp] theorem mCont_e : mCont ⟨r, G⟩ = some (.ok .ct, ⟨r, G⟩) := rfl
@[simp] theorem land_val : land (.val w) ⟨r, G⟩ = some (.ok (.val w), ⟨r, G⟩) := rfl
@[simp] theorem land_own {c : Cell} : land (.own c) ⟨r, G⟩ = some (.ok (.own c), ⟨r, G⟩) := rfl
@[simp] theorem land_hnd : land (.hnd i) ⟨r, G⟩ = bnd (freeze (.hnd i)) (fun w => ret (.val w)) ⟨r, G⟩ := rfl
@[simp] theorem setM_e {x : SV} : setM i x ⟨r, G⟩ = some (.ok .nx, ⟨r.set i x, G⟩) := rfl
@[simp] theorem mAsg_e : mAsg i m ⟨r, G⟩ = bnd m (fun x => bnd (land x) fun y => setM i y) ⟨r, G⟩ := rfl
@[simp] theorem mDrop_e : mDrop m ⟨r, G⟩ = bnd m (fun _ => ret .nx) ⟨r, G⟩ := rfl
@[simp] theorem retM_val : retM (.val w) ⟨r, G⟩ = some (.ok (.rt (.val w)), ⟨r, G⟩) := rfl
@[simp] theorem retM_own {c : Cell} : retM (.own c) ⟨r, G⟩ = some (.ok (.rt (.own c)), ⟨r, G⟩) := rfl
@[simp] theorem retM_hnd : retM (.hnd i) ⟨r, G⟩ = match r[i]? with
    | some (.own c) => some (.ok (.rt (.own c)), ⟨r, G⟩)
    | some (.val w) => some (.ok (.rt (.val w)), ⟨r, G⟩)
    | _ => none := rfl
@[simp] theorem mRet_e : mRet m ⟨r, G⟩ = bnd m retM ⟨r, G⟩ := rfl
@[simp] theorem mRetN_e : mRetN ⟨r, G⟩ = some (.ok (.rt (.val .non)), ⟨r, G⟩) := rfl
@[simp] theorem mNil_e : mNil ⟨r, G⟩ = some (.ok [], ⟨r, G⟩) := rfl
@[simp] theorem mCons_e : mCons m ms ⟨r, G⟩ = bnd m (fun x => bnd ms fun xs => ret (settle x :: xs)) ⟨r, G⟩ := rfl
@[simp] theorem freezeAll_nil : freezeAll [] ⟨r, G⟩ = some (.ok [], ⟨r, G⟩) := rfl
@[simp] theorem freezeAll_cons {x : RV} {xs : List RV} : freezeAll (x :: xs) ⟨r, G⟩ = bnd (freeze x) (fun w => bnd (freezeAll xs) fun ws => ret (w :: ws)) ⟨r, G⟩ := rfl
@[simp] theorem lookAll_nil : lookAll [] ⟨r, G⟩ = some (.ok [], ⟨r, G⟩) := rfl
@[simp] theorem lookAll_cons {x : RV} {xs : List RV} : lookAll (x :: xs) ⟨r, G⟩ = bnd (look x) (fun w => bnd (lookAll xs) fun ws => ret (w :: ws)) ⟨r, G⟩ := rfl
@[simp] theorem mTup_e : mTup ms ⟨r, G⟩ = bnd ms (fun xs => bnd (freezeAll xs) fun ws => if ws.length ≤ sz then ret (.val (.tup ws)) else stk) ⟨r, G⟩ := rfl
@[simp] theorem mLst_e : mLst ms ⟨r, G⟩ = bnd ms (fun xs => bnd (freezeAll xs) fun ws => if ws.length ≤ sz then ret (.own (.lst ws)) else stk) ⟨r, G⟩ := rfl
@[simp] theorem mCB_e {f : List W → Option OR} : mCB f ms ⟨r, G⟩ = bnd ms (fun xs => bnd (lookAll xs) fun ws => liftO (f ws)) ⟨r, G⟩ := rfl
@[simp] theorem mAsgT_e {t : W → Mo Unit} : mAsgT t m ⟨r, G⟩ = bnd m (fun x => bnd (freeze (settle x)) fun w => bnd (t w) fun _ => ret .nx) ⟨r, G⟩ := rfl
@[simp] theorem tgN_e : tgN i w ⟨r, G⟩ = some (.ok (), ⟨r.set i (.val w), G⟩) := rfl
@[simp] theorem tgT_e {u : List W → Mo Unit} {ws : List W} : tgT n u (.tup ws) ⟨r, G⟩ = if ws.length = n then u ws ⟨r, G⟩ else none := by
  show (if ws.length = n then u ws else stk) ⟨r, G⟩ = _
  split <;> rfl
@[simp] theorem tgsNil_e : tgsNil [] ⟨r, G⟩ = some (.ok (), ⟨r, G⟩) := rfl
@[simp] theorem tgsCons_e {t : W → Mo Unit} {u : List W → Mo Unit} {ws : List W} : tgsCons t u (w :: ws) ⟨r, G⟩ = bnd (t w) (fun _ => u ws) ⟨r, G⟩ := rfl
@[simp] theorem mFor_e {mi : Mo Wk} {t : W → Mo Unit} {mb : Mo Fl} : mFor mi t mb ⟨r, G⟩ = bnd mi (fun k => forL k k.ws fun w => bnd (t w) fun _ => mb) ⟨r, G⟩ := rfl
@[simp] theorem mIter_e : mIter m ⟨r, G⟩ = bnd m (fun x => bnd (freeze (settle x)) fun w s => (walkOf s w).map fun k => (.ok k, s)) ⟨r, G⟩ := rfl
@[simp] theorem walk_lst {ws : List W} : walkOf s (.lst ws) = some ⟨ws, none⟩ := rfl
@[simp] theorem walk_frl {ws : List W} : walkOf s (.frl ws) = some ⟨ws, none⟩ := rfl
@[simp] theorem walk_tup {ws : List W} : walkOf s (.tup ws) = some ⟨ws, none⟩ := rfl
@[simp] theorem walk_ref : walkOf ⟨r, G⟩ (.ref n) = match G[n]? with
    | some (.lst ws) => some ⟨ws, some n⟩
    | _ => none := rfl
theorem lk_nat {n : Nat} (h : n ≤ 1000000) : Lk (n : Int) := by unfold Lk; omega
@[simp] theorem rk_small {j : Int} (h : -1000000 ≤ j ∧ j ≤ 1000000) : Rk j := by unfold Rk; omega
theorem rk_nat {n : Nat} (h : n ≤ 1000000) : Rk (n : Int) := by unfold Rk; omega
@[simp] theorem mRng1_e : mRng1 ms ⟨r, G⟩ = bnd ms (fun xs => bnd (lookAll xs) fun ws => match ws with
  | [.int j] => if Rk j then ret ⟨rngW 0 j.toNat, none⟩ else stk
  | _ => stk) ⟨r, G⟩ := rfl
@[simp] theorem mRng2_e : mRng2 ms ⟨r, G⟩ = bnd ms (fun xs => bnd (lookAll xs) fun ws => match ws with
  | [.int i, .int j] => if Rk i ∧ Rk j then ret ⟨rngW i (j - i).toNat, none⟩ else stk
  | _ => stk) ⟨r, G⟩ := rfl
@[simp] theorem mLc_e {vs : List Nat} {mi : Mo Wk} {t : W → Mo Unit} {tt : Mo Bool} : mLc vs mi t tt me ⟨r, G⟩ = bnd mi (fun k s => lcL vs t tt me k k.ws [] (wipeS vs s)) ⟨r, G⟩ := rfl
@[simp] theorem mYes_e : mYes ⟨r, G⟩ = some (.ok true, ⟨r, G⟩) := rfl
@[simp] theorem wipeS_e {vs : List Nat} : wipeS vs ⟨r, G⟩ = ⟨wipeR r vs, G⟩ := rfl
@[simp] theorem wipeR_nil : wipeR r [] = r := rfl
@[simp] theorem wipeR_cons {vs : List Nat} : wipeR r (n :: vs) = (wipeR r vs).set n .non := rfl
@[simp] theorem mChain_e {f g : W → W → Option OR} : mChain f g ma mb mc ⟨r, G⟩ = bnd ma (fun x => bnd mb fun y => bnd (mB (opM f (settle x) (settle y))) fun k => if k = true then bnd mc fun z => opM g (settle y) (settle z) else ret (.val (.bl false))) ⟨r, G⟩ := rfl
@[simp] theorem mSl_e {ml mh : Mo (Option Int)} : mSl mo ml mh ⟨r, G⟩ = bnd mo (fun x => bnd ml fun l => bnd mh fun h => bnd (look (settle x)) fun wx => liftO (fSl wx l h)) ⟨r, G⟩ := rfl
@[simp] theorem mNoPart_e : mNoPart ⟨r, G⟩ = some (.ok none, ⟨r, G⟩) := rfl
@[simp] theorem toI_e {k : Int} : toI (.val (.int k)) ⟨r, G⟩ = some (.ok (some k), ⟨r, G⟩) := rfl
@[simp] theorem mPart_e : mPart m ⟨r, G⟩ = bnd m toI ⟨r, G⟩ := rfl
@[simp] theorem mAug_e {f : W → W → Option OR} : mAug i f me ⟨r, G⟩ = mAsg i (bnd (mName i) fun x => bnd me fun y => opM f x (settle y)) ⟨r, G⟩ := rfl
@[simp] theorem mMut_e {k : CK} {f : Cell → List W → Option (W × Cell)} : mMut k f mo ms ⟨r, G⟩ = bnd mo (fun x s => if ((cellAt s (settle x)).map k.fits) = some true then (bnd ms fun xs => bnd (freezeAll xs) fun ws s2 => match cellAt s2 (settle x) with
  | some c => (match f c ws with
    | some (w, c') => some (.ok (.val w), putAt s2 c' (settle x))
    | none => none)
  | none => none) s else none) ⟨r, G⟩ := rfl
@[simp] theorem cellAt_hnd : cellAt ⟨r, G⟩ (.hnd i) = match r[i]? with
    | some (.own c) => some c
    | some (.val (.ref n)) => G[n]?
    | _ => none := rfl
@[simp] theorem cellAt_ref : cellAt ⟨r, G⟩ (.val (.ref n)) = G[n]? := rfl
@[simp] theorem putAt_hnd {c : Cell} : putAt ⟨r, G⟩ c (.hnd i) = match r[i]? with
    | some (.own _) => ⟨r.set i (.own c), G⟩
    | some (.val (.ref n)) => ⟨r, G.set n c⟩
    | _ => ⟨r, G⟩ := by
  unfold putAt
  rfl
@[simp] theorem putAt_ref {c : Cell} : putAt ⟨r, G⟩ c (.val (.ref n)) = ⟨r, G.set n c⟩ := rfl
@[simp] theorem fits_l {ws : List W} : CK.fits .lst (.lst ws) = true := rfl
@[simp] theorem mSub_e {f : Cell → W → W → Option Cell} : mSub f mv mo mi ⟨r, G⟩ = bnd mv (fun y => bnd (freeze (settle y)) fun wy => bnd mo fun x => bnd mi fun i => bnd (freeze (settle i)) fun wi => putSub f (settle x) wi wy) ⟨r, G⟩ := rfl
@[simp] theorem putSub_e {f : Cell → W → W → Option Cell} {x : RV} {wi wy : W} : putSub f x wi wy ⟨r, G⟩ = match cellAt ⟨r, G⟩ x with
  | some c => (match f c wi wy with
    | some c' => some (.ok .nx, putAt ⟨r, G⟩ c' x)
    | none => none)
  | none => none := rfl
@[simp] theorem mCall_e {m : Fn} : mCall n m ms ⟨r, G⟩ = bnd ms (fun xs => bnd (freezeAll xs) fun ws => if ws.length = n then callG m ws else stk) ⟨r, G⟩ := rfl
@[simp] theorem callG_e {m : Fn} {ws : List W} : callG m ws ⟨r, G⟩ = match m ws G with
  | some (.ok f, G') => some (.ok (rvOf f), ⟨r, G'⟩)
  | some (.error x, G') => some (.error x, ⟨r, G'⟩)
  | none => none := rfl
@[simp] theorem rvOf_val : rvOf (.val w) = .val w := rfl
@[simp] theorem rvOf_own {c : Cell} : rvOf (.own c) = .own c := rfl
@[simp] theorem mCallW_e {m : Fn} : mCallW n m ms ⟨r, G⟩ = bnd ms (fun xs => bnd (freezeAll xs) fun ws => if ws.length = n then quiet (callG m ws) else stk) ⟨r, G⟩ := rfl
@[simp] theorem quiet_e : quiet m ⟨r, G⟩ = match m ⟨r, G⟩ with
  | some (.ok x, s') => some (.ok x, s')
  | _ => none := rfl
@[simp] theorem chk_e {nm mn : Str} : chk nm mn w ⟨r, G⟩ = match derefW ⟨r, G⟩ w with
  | some (.obj nm' fs) => if nm' = nm ∧ fs.lookup mn = none then some (.ok (), ⟨r, G⟩) else none
  | _ => none := rfl
@[simp] theorem mMeth_e {nm mn : Str} {m : Fn} {ds : List W} : mMeth nm mn n m ds mo ms ⟨r, G⟩ = bnd mo (fun x => bnd (freeze (settle x)) fun w => bnd (chk nm mn w) fun _ => bnd ms fun xs => bnd (freezeAll xs) fun ws =>
  if (w :: (ws ++ ds)).length = n then callG m (w :: (ws ++ ds)) else stk) ⟨r, G⟩ := rfl
@[simp] theorem mMake_e {nm : Str} {m : Fn} {ds : List W} : mMake nm n m ds ms ⟨r, G⟩ = bnd ms (fun xs => bnd (freezeAll xs) fun ws => if (ws ++ ds).length + 1 = n then makeG nm m (ws ++ ds) else stk) ⟨r, G⟩ := rfl
@[simp] theorem mSetF_e {nms : List Str} {f : Str} : mSetF nms f mo mv ⟨r, G⟩ = bnd mv (fun y => bnd (freeze (settle y)) fun wy => bnd mo fun x => putFld nms f wy x) ⟨r, G⟩ := rfl
@[simp] theorem putFld_e {nms : List Str} {f : Str} : putFld nms f w (.val (.ref n)) ⟨r, G⟩ = match G[n]? with
    | some (.ins nm fs) => if nm ∈ nms ∧ fs.length < 1000 then some (.ok .nx, ⟨r, G.set n (.ins nm (putFW f w fs))⟩) else none
    | _ => none := rfl
@[simp] theorem mRaise_e {nm : Str} {fs : List Str} : mRaise nm fs ms ⟨r, G⟩ = bnd ms (fun xs => bnd (freezeAll xs) fun ws => if ws.length = fs.length ∧ ws.length ≤ 1000 then raiseM ⟨nm, (fs.zip ws).reverse⟩ else stk) ⟨r, G⟩ := rfl
@[simp] theorem mRaise0_e {nm : Str} : mRaise0 nm ⟨r, G⟩ = some (.error ⟨nm, []⟩, ⟨r, G⟩) := rfl
@[simp] theorem mIs_e {tab : List (CT × Bool)} : mIs tab m ⟨r, G⟩ = bnd m (fun x => bnd (look (settle x)) fun w => liftO ((tyOfW w).bind fun c => (tabAt tab c).map fun b => .imm (.bl b))) ⟨r, G⟩ := rfl
@[simp] theorem mXf_e {nms : List Str} {f : Str} : mXf nms i f ⟨r, G⟩ = match r[i]? with
  | some (.exc x) => if x.nm ∈ nms then (match x.fs.lookup f with
    | some w => some (.ok (.val w), ⟨r, G⟩)
    | none => none) else none
  | _ => none := rfl
@[simp] theorem mIsX_e {tab : List (CT × Bool)} : mIsX tab i ⟨r, G⟩ = match r[i]? with
  | some (.exc x) => (match tabAt tab (.own x.nm) with
    | some b => some (.ok (.val (.bl b)), ⟨r, G⟩)
    | none => none)
  | _ => none := rfl
@[simp] theorem mBinS_e {f : RV → RV → Mo RV} : mBinS f ma mb ⟨r, G⟩ = bnd ma (fun x => bnd mb fun y => f (settle x) (settle y)) ⟨r, G⟩ := rfl
@[simp] theorem mOwn2_e {nm : Str} {tys : List CT} {m : Fn} {x y : RV} : mOwn2 nm tys m x y ⟨r, G⟩ = bnd (freezeAll [x, y]) (fun ws => bnd (chkO nm tys ws) fun _ => callG m ws) ⟨r, G⟩ := rfl
@[simp] theorem mIn2_e {neg : Bool} {nm : Str} {m : Fn} {x y : RV} : mIn2 neg nm m x y ⟨r, G⟩ = bnd (freezeAll [y, x]) (fun ws => bnd (chk1 nm ws) fun _ => bnd (callG m ws) (toBl neg)) ⟨r, G⟩ := rfl
@[simp] theorem mSub2_e {nm : Str} {m : Fn} {x y : RV} : mSub2 nm m x y ⟨r, G⟩ = bnd (freezeAll [x, y]) (fun ws => bnd (chk1 nm ws) fun _ => callG m ws) ⟨r, G⟩ := rfl
@[simp] theorem chkO_e {nm : Str} {tys : List CT} {x y : W} : chkO nm tys [x, y] ⟨r, G⟩ = match derefW ⟨r, G⟩ x, (derefW ⟨r, G⟩ y).bind tyOfW with
    | some (.obj nm' _), some ct => if nm' = nm ∧ ct ∈ tys then some (.ok (), ⟨r, G⟩) else none
    | _, _ => none := rfl
@[simp] theorem chk1_e {nm : Str} {x : W} {xs : List W} : chk1 nm (x :: xs) ⟨r, G⟩ = match derefW ⟨r, G⟩ x with
    | some (.obj nm' _) => if nm' = nm then some (.ok (), ⟨r, G⟩) else none
    | _ => none := rfl
@[simp] theorem toBl_e {neg b : Bool} : toBl neg (.val (.bl b)) ⟨r, G⟩ = some (.ok (.val (.bl (if neg then !b else b))), ⟨r, G⟩) := rfl
@[simp] theorem mLenO_e {nm : Str} {m : Fn} : mLenO nm m ms ⟨r, G⟩ = bnd ms (fun xs => bnd (freezeAll xs) fun ws => if ws.length = 1 then bnd (chk1 nm ws) fun _ => bnd (callG m ws) toLen else stk) ⟨r, G⟩ := rfl
@[simp] theorem toLen_e {k : Int} : toLen (.val (.int k)) ⟨r, G⟩ = if Lk k then some (.ok (.val (.int k)), ⟨r, G⟩) else none := by
  show (if Lk k then ret (.val (.int k)) else stk : Mo RV) ⟨r, G⟩ = _
  split <;> rfl
@[simp] theorem mListO_e {nm fl : Str} {m : Fn} : mListO nm fl m ms ⟨r, G⟩ = bnd ms (fun xs => bnd (freezeAll xs) fun ws => listO nm fl rdL m ws) ⟨r, G⟩ := rfl
@[simp] theorem mListS_e {nm fl : Str} {rd : W → Option (List W)} {m : Fn} : mListS nm fl rd m ms ⟨r, G⟩ = bnd ms (fun xs => bnd (freezeAll xs) fun ws => listO nm fl rd m ws) ⟨r, G⟩ := rfl
@[simp] theorem listO_e {nm fl : Str} {rd : W → Option (List W)} {m : Fn} : listO nm fl rd m [w] ⟨r, G⟩ = match (derefW ⟨r, G⟩ w).bind (fldS nm fl rd) with
    | some zs => (match callG m [w] ⟨r, G⟩ with
      | some (.ok (.val (.int n)), s') => if 0 ≤ n ∧ n ≤ sz then some (.ok (.own (.lst zs)), s') else none
      | _ => none)
    | none => none := rfl
@[simp] theorem mCell_e : mCell m ⟨r, G⟩ = bnd m toCell ⟨r, G⟩ := rfl
@[simp] theorem toCell_e {c : Cell} : toCell (.own c) ⟨r, G⟩ = some (.ok (.val (.ref G.length)), ⟨r, G ++ [c]⟩) := rfl
@[simp] theorem mTry_e {m : Mo Fl} {hs : List Hd} : mTry m hs ⟨r, G⟩ = match m ⟨r, G⟩ with
  | none => none
  | some (.ok f, s') => some (.ok f, s')
  | some (.error x, s') => handleM hs x s' := rfl
@[simp] theorem handle_nil {x : Ex} : handleM [] x ⟨r, G⟩ = some (.error x, ⟨r, G⟩) := rfl
@[simp] theorem handle_cons {x : Ex} {h : Hd} {hs : List Hd} : handleM (h :: hs) x ⟨r, G⟩ = match h.tbl.lookup x.nm with
    | none => none
    | some true => runSuite h x ⟨r, G⟩
    | some false => handleM hs x ⟨r, G⟩ := rfl
@[simp] theorem runSuite_e {x : Ex} {h : Hd} : runSuite h x ⟨r, G⟩ = if noExc r = true then match h.slot with
  | none => (match h.suite ⟨r, G⟩ with
    | some (.ok f, s') => if noExc s'.r = true then some (.ok f, s') else none
    | _ => none)
  | some i => (match h.suite ⟨r.set i (.exc x), G⟩ with
    | some (.ok f, s') => if noExc (s'.r.set i .non) = true then some (.ok f, { s' with r := s'.r.set i .non }) else none
    | _ => none)
  else none := rfl
end
/-! ### ints -/
section
variable {a b : Int}
@[simp] theorem fAdd_i : fAdd (.int a) (.int b) = some (.imm (.int (a + b))) := rfl
@[simp] theorem fSub_i : fSub (.int a) (.int b) = some (.imm (.int (a - b))) := rfl
@[simp] theorem fMul_i : fMul (.int a) (.int b) = if CMul a b then some (.imm (.int (a * b))) else none := by
  unfold fMul orf fIC fRepL
  split <;> rename_i h <;> split at h <;> simp_all
@[simp] theorem fDiv_i : fDiv (.int a) (.int b) = if CDivW a b then some (.imm (.int (a / b))) else none := rfl
@[simp] theorem fMod_i : fMod (.int a) (.int b) = if 0 < b then some (.imm (.int (a % b))) else none := rfl
@[simp] theorem fPow_i : fPow (.int a) (.int b) = if CPow a b then some (.imm (.int (a ^ b.toNat))) else none := rfl
@[simp] theorem fShl_i : fShl (.int a) (.int b) = if CPow a b then some (.imm (.int (a * 2 ^ b.toNat))) else none := rfl
@[simp] theorem fShr_i : fShr (.int a) (.int b) = if 0 ≤ b then some (.imm (.int (a / 2 ^ b.toNat))) else none := rfl
@[simp] theorem fNeg_i : fNeg (.int a) = some (.imm (.int (-a))) := rfl
@[simp] theorem fLt_i : fLt (.int a) (.int b) = some (.imm (.bl (decide (a < b)))) := rfl
@[simp] theorem fLe_i : fLe (.int a) (.int b) = some (.imm (.bl (decide (a ≤ b)))) := rfl
@[simp] theorem fGt_i : fGt (.int a) (.int b) = some (.imm (.bl (decide (b < a)))) := rfl
@[simp] theorem fGe_i : fGe (.int a) (.int b) = some (.imm (.bl (decide (b ≤ a)))) := rfl
@[simp] theorem fInt1_i : fInt1 [.int a] = some (.imm (.int a)) := rfl
@[simp] theorem fLen_l {ws : List W} : fLen [.lst ws] = some (.imm (.int ws.length)) := rfl
@[simp] theorem fLen_f {ws : List W} : fLen [.frl ws] = some (.imm (.int ws.length)) := rfl
@[simp] theorem fLen_t {ws : List W} : fLen [.tup ws] = some (.imm (.int ws.length)) := rfl
@[simp] theorem fIx_l {ws : List W} : fIx (.lst ws) (.int a) = (atI ws a).map .imm := by
  unfold fIx orf fIxS
  cases h : atI ws a <;> simp [h, fIxD, dLook]
@[simp] theorem fIx_f {ws : List W} : fIx (.frl ws) (.int a) = (atI ws a).map .imm := by
  unfold fIx orf fIxS
  cases h : atI ws a <;> simp [h, fIxD, dLook]
@[simp] theorem fIx_t {ws : List W} : fIx (.tup ws) (.int a) = (atI ws a).map .imm := by
  unfold fIx orf fIxS
  cases h : atI ws a <;> simp [h, fIxD, dLook]
theorem atI_mapI {xs : List Int} {k : Nat} (h : k < xs.length) : atI (xs.map W.int) (k : Int) = some (.int (xs[k]'h)) := atI_nat (by simp [h])
theorem atI_lt {ws : List W} {k : Nat} (h : k < ws.length) : atI ws (k : Int) = some (ws[k]'h) := atI_nat (by simp [h])
end
theorem fnM_e {n : Nat} {body : Mo Fl} {ws : List W} {G : List Cell} : fnM n body ws G = match body ⟨ws.map SV.val ++ List.replicate (n - ws.length) SV.non, G⟩ with
  | some (.ok (.rt f), s) => some (.ok f, s.G)
  | some (.ok .nx, s) => some (.ok (.val .non), s.G)
  | some (.error x, s) => some (.error x, s.G)
  | _ => none := rfl
end Z

set_option Elab.async false
set_option linter.all false
set_option maxRecDepth 100000
/-! Z26: loops and comprehensions of mirrors; data compared. -/
namespace Z
open PySem PySem.Spec PyProof.Rows L2
section
variable {ws ws0 : List W} {k : Wk} {b : W → Mo Fl} {s : S} {F : Option (Except Ex Fl × S)}
@[simp] theorem ok_none : Wk.ok ⟨ws, none⟩ s ↔ True := Iff.rfl
@[simp] theorem ok_some {n : Nat} {r : List SV} {G : List Cell} : Wk.ok ⟨ws, some n⟩ ⟨r, G⟩ ↔ G[n]? = some (.lst ws) := Iff.rfl
theorem forL_gen {R : Except Ex Fl → S → Prop} (I : Nat → S → Prop) (hok : ∀ i s, I i s → k.ok s) (hend : ∀ s, I ws.length s → R (.ok .nx) s)
    (h : ∀ (i : Nat) (hi : i < ws.length) (s : S), I i s → (∃ s', (b ws[i] s = some (.ok .nx, s') ∨ b ws[i] s = some (.ok .ct, s')) ∧ I (i + 1) s') ∨ (∃ s', b ws[i] s = some (.ok .bk, s') ∧ R (.ok .nx) s') ∨
      (∃ f s', b ws[i] s = some (.ok (.rt f), s') ∧ R (.ok (.rt f)) s') ∨ ∃ x s', b ws[i] s = some (.error x, s') ∧ R (.error x) s') :
    ∀ (n i : Nat) (s : S), n = ws.length - i → i ≤ ws.length → I i s → ∃ r s', forL k (ws.drop i) b s = some (r, s') ∧ R r s' := by
  intro n
  induction n with
  | zero =>
    intro i s hk hi hI
    have e : i = ws.length := by omega
    subst e
    rw [List.drop_length]
    exact ⟨_, _, if_pos (hok _ _ hI), hend s hI⟩
  | succ n ih =>
    intro i s hk hi hI
    have hlt : i < ws.length := by omega
    rw [drop_get hlt]
    unfold forL
    rw [if_pos (hok _ _ hI)]
    rcases h i hlt s hI with ⟨s', e | e, hI'⟩ | ⟨s', e, hR⟩ | ⟨f, s', e, hR⟩ | ⟨x, s', e, hR⟩
    · rw [bnd_at e]
      exact ih (i + 1) s' (by omega) (by omega) hI'
    · rw [bnd_at e]
      exact ih (i + 1) s' (by omega) (by omega) hI'
    · rw [bnd_at e]
      exact ⟨_, _, rfl, hR⟩
    · rw [bnd_at e]
      exact ⟨_, _, rfl, hR⟩
    · unfold bnd; rw [e]
      exact ⟨_, _, rfl, hR⟩
/-- a loop that may be left -/
theorem forL_exitK {R : Except Ex Fl → S → Prop} (hF : forL k ws b s = F) (I : Nat → S → Prop) (hok : ∀ i s, I i s → k.ok s) (h0 : I 0 s) (hend : ∀ s, I ws.length s → R (.ok .nx) s)
    (h : ∀ (i : Nat) (hi : i < ws.length) (s : S), I i s → (∃ s', (b ws[i] s = some (.ok .nx, s') ∨ b ws[i] s = some (.ok .ct, s')) ∧ I (i + 1) s') ∨ (∃ s', b ws[i] s = some (.ok .bk, s') ∧ R (.ok .nx) s') ∨
      (∃ f s', b ws[i] s = some (.ok (.rt f), s') ∧ R (.ok (.rt f)) s') ∨ ∃ x s', b ws[i] s = some (.error x, s') ∧ R (.error x) s') : ∃ r s', F = some (r, s') ∧ R r s' := by
  have := forL_gen (k := k) I hok hend h ws.length 0 s (by simp) (Nat.zero_le _) h0
  rw [List.drop_zero, hF] at this
  exact this
theorem forL_exitAt {R : Except Ex Fl → S → Prop} (hF : forL ⟨ws0, none⟩ ws b s = F) (I : Nat → S → Prop) (h0 : I 0 s) (hend : ∀ s, I ws.length s → R (.ok .nx) s)
    (h : ∀ (i : Nat) (hi : i < ws.length) (s : S), I i s → (∃ s', (b ws[i] s = some (.ok .nx, s') ∨ b ws[i] s = some (.ok .ct, s')) ∧ I (i + 1) s') ∨ (∃ s', b ws[i] s = some (.ok .bk, s') ∧ R (.ok .nx) s') ∨
      (∃ f s', b ws[i] s = some (.ok (.rt f), s') ∧ R (.ok (.rt f)) s') ∨ ∃ x s', b ws[i] s = some (.error x, s') ∧ R (.error x) s') : ∃ r s', F = some (r, s') ∧ R r s' := forL_exitK hF I (fun _ _ _ => trivial) h0 hend h
/-- .. that runs to its end -/
theorem forL_atK (hF : forL k ws b s = F) (I : Nat → S → Prop) (hok : ∀ i s, I i s → k.ok s) (h0 : I 0 s) (h : ∀ (i : Nat) (hi : i < ws.length) (s : S), I i s → ∃ s', b ws[i] s = some (.ok .nx, s') ∧ I (i + 1) s') : ∃ s', F = some (.ok .nx, s') ∧ I ws.length s' := by
  obtain ⟨r, s', e, hr, hI⟩ := forL_exitK hF (R := fun r s' => r = .ok .nx ∧ I ws.length s') I hok h0 (fun s hI => ⟨rfl, hI⟩) (fun i hi s hI => .inl (let ⟨s', e, h'⟩ := h i hi s hI; ⟨s', .inl e, h'⟩))
  subst hr
  exact ⟨s', e, hI⟩
theorem forL_at (hF : forL ⟨ws0, none⟩ ws b s = F) (I : Nat → S → Prop) (h0 : I 0 s) (h : ∀ (i : Nat) (hi : i < ws.length) (s : S), I i s → ∃ s', b ws[i] s = some (.ok .nx, s') ∧ I (i + 1) s') : ∃ s', F = some (.ok .nx, s') ∧ I ws.length s' := forL_atK hF I (fun _ _ _ => trivial) h0 h
variable {γ : Type} {e : γ → W} {xs : List γ} {vs : List Nat} {t : W → Mo Unit} {tt : Mo Bool} {me : Mo RV}
/-- a comprehension that changes nothing -/
theorem lc_pure (hk : k.ok s) (p : γ → Bool) (f : γ → W) : ∀ (xs : List γ) (acc : List W), (∀ x ∈ xs, ∃ s1, (bnd (t (e x)) fun _ => tt) s = some (.ok (p x), s1) ∧ (p x = true → ∃ s2, (bnd me fun y => freeze (settle y)) s1 = some (.ok (f x), s2) ∧ wipeS vs s2 = s) ∧ (p x = false → wipeS vs s1 = s)) →
    acc.length + xs.length ≤ sz → lcL vs t tt me k (xs.map e) acc s = some (.ok (.own (.lst (acc ++ (xs.filter p).map f))), s)
  | [], acc, _, _ => by
    simp only [List.map_nil, List.filter_nil, List.append_nil]
    unfold lcL
    exact if_pos hk
  | x :: xs, acc, h, hl => by
    obtain ⟨s1, e1, h1, h2⟩ := h x List.mem_cons_self
    have hr := fun y hy => h y (List.mem_cons_of_mem x hy)
    simp only [List.map_cons]
    unfold lcL
    rw [if_pos hk, e1]
    cases q : p x with
    | true =>
      obtain ⟨s2, e2, e3⟩ := h1 q
      simp only [e2]
      rw [if_pos (by simp at hl; omega), e3, lc_pure hk p f xs _ hr (by simp at hl ⊢; omega)]
      simp [List.filter_cons, q]
    | false =>
      simp only []
      rw [h2 q, lc_pure hk p f xs _ hr (by simp at hl ⊢; omega)]
      simp [List.filter_cons, q]
theorem lc_all (hk : k.ok s) (f : γ → W) (xs : List γ) (acc : List W) (h : ∀ x ∈ xs, ∃ s1, (bnd (t (e x)) fun _ => tt) s = some (.ok true, s1) ∧ ∃ s2, (bnd me fun y => freeze (settle y)) s1 = some (.ok (f x), s2) ∧ wipeS vs s2 = s) (hl : acc.length + xs.length ≤ sz) :
    lcL vs t tt me k (xs.map e) acc s = some (.ok (.own (.lst (acc ++ xs.map f))), s) := by
  have := lc_pure hk (vs := vs) (t := t) (tt := tt) (me := me) (e := e) (s := s) (fun _ => true) f xs acc (fun x hx => by
    obtain ⟨s1, e1, s2, e2, e3⟩ := h x hx
    exact ⟨s1, e1, fun _ => ⟨s2, e2, e3⟩, fun q => by cases q⟩) hl
  rwa [List.filter_eq_self.mpr fun _ _ => rfl] at this
/-- a comprehension whose items may become cells, or that calls: by an invariant -/
theorem lc_inv (I : Nat → List W → S → Prop) (hok : ∀ i acc s, I i acc s → k.ok s) : ∀ (n i : Nat) (acc : List W) (s : S), n = ws.length - i → i ≤ ws.length → I i acc s → acc.length ≤ i → ws.length ≤ sz →
    (∀ (i : Nat) (hi : i < ws.length) (acc : List W) (s : S), I i acc s → ∃ b s1, (bnd (t ws[i]) fun _ => tt) s = some (.ok b, s1) ∧ (b = true → ∃ y s2, (bnd me fun y => freeze (settle y)) s1 = some (.ok y, s2) ∧ I (i + 1) (acc ++ [y]) (wipeS vs s2)) ∧ (b = false → I (i + 1) acc (wipeS vs s1))) →
    ∃ acc' s', lcL vs t tt me k (ws.drop i) acc s = some (.ok (.own (.lst acc')), s') ∧ I ws.length acc' s' ∧ acc'.length ≤ ws.length := by
  intro n
  induction n with
  | zero =>
    intro i acc s hn hi hI hl hz h
    have e : i = ws.length := by omega
    subst e
    rw [List.drop_length]
    unfold lcL
    exact ⟨acc, s, if_pos (hok _ _ _ hI), hI, hl⟩
  | succ n ih =>
    intro i acc s hn hi hI hl hz h
    have hlt : i < ws.length := by omega
    rw [drop_get hlt]
    unfold lcL
    rw [if_pos (hok _ _ _ hI)]
    obtain ⟨b, s1, e1, h1, h2⟩ := h i hlt acc s hI
    rw [e1]
    cases b with
    | true =>
      obtain ⟨y, s2, e2, h3⟩ := h1 rfl
      simp only [e2]
      rw [if_pos (by omega)]
      exact ih (i + 1) _ _ (by omega) (by omega) h3 (by simp; omega) hz h
    | false => exact ih (i + 1) _ _ (by omega) (by omega) (h2 rfl) (by omega) hz h
theorem lc_at {F : Option (Except Ex RV × S)} (hF : lcL vs t tt me k ws [] s = F) (I : Nat → List W → S → Prop) (hok : ∀ i acc s, I i acc s → k.ok s) (h0 : I 0 [] s) (hz : ws.length ≤ sz)
    (h : ∀ (i : Nat) (hi : i < ws.length) (acc : List W) (s : S), I i acc s → ∃ b s1, (bnd (t ws[i]) fun _ => tt) s = some (.ok b, s1) ∧ (b = true → ∃ y s2, (bnd me fun y => freeze (settle y)) s1 = some (.ok y, s2) ∧ I (i + 1) (acc ++ [y]) (wipeS vs s2)) ∧ (b = false → I (i + 1) acc (wipeS vs s1))) :
    ∃ acc' s', F = some (.ok (.own (.lst acc')), s') ∧ I ws.length acc' s' ∧ acc'.length ≤ ws.length := by
  have := lc_inv (k := k) I hok ws.length 0 [] s (by simp) (Nat.zero_le _) h0 (Nat.zero_le _) hz h
  rw [List.drop_zero, hF] at this
  exact this
theorem rng_map {lo : Int} {n : Nat} : rngW lo n = (List.range n).map fun (k : Nat) => W.int (lo + (k : Int)) := rfl
end
/-! ### data -/
def intsD (xs : List Int) : List PyData := xs.map PyData.int
theorem toPDs_map {γ : Type} {e : γ → W} {g : γ → PyData} (h : ∀ x, toPD (e x) = some (g x)) : ∀ xs : List γ, toPDs (xs.map e) = some (xs.map g)
  | [] => rfl
  | x :: xs => by simp only [List.map_cons, toPDs, h x, toPDs_map h xs]
theorem eqvAll_map {γ : Type} [DecidableEq γ] {g : γ → PyData} (h : ∀ x y, PyData.eqv (g x) (g y) = decide (x = y)) : ∀ xs ys : List γ, PyData.eqvAll (xs.map g) (ys.map g) = decide (xs = ys)
  | [], [] => rfl
  | [], _ :: _ => rfl
  | _ :: _, [] => rfl
  | x :: xs, y :: ys => by
    simp only [List.map_cons, PyData.eqvAll, h, eqvAll_map h xs ys]
    by_cases h1 : x = y <;> by_cases h2 : xs = ys <;> simp [h1, h2]
theorem canAll_map {γ : Type} {g : γ → PyData} (h : ∀ x, (g x).canLay0 = true) : ∀ xs : List γ, PyData.canLayAll0 (xs.map g) = true
  | [] => rfl
  | x :: xs => by simp only [List.map_cons, PyData.canLayAll0, h x, canAll_map h xs, Bool.and_true]
/-- how a kind of data is written as values that == tells apart -/
structure Emb {γ : Type} [DecidableEq γ] (e : γ → W) (n : Nat) : Prop where
  ex : ∃ g : γ → PyData, (∀ x, toPD (e x) = some (g x)) ∧ (∀ x, (g x).canLay0 = true) ∧ (∀ x, (g x).depth ≤ n) ∧ ∀ x y, PyData.eqv (g x) (g y) = decide (x = y)
theorem depthAll_map {γ : Type} {g : γ → PyData} {n : Nat} (h : ∀ x, (g x).depth ≤ n) : ∀ xs : List γ, PyData.depthAll (xs.map g) ≤ n
  | [] => Nat.zero_le _
  | x :: xs => by simp only [List.map_cons, PyData.depthAll]; exact Nat.max_le.mpr ⟨h x, depthAll_map h xs⟩
section
variable {γ δ : Type} [DecidableEq γ] [DecidableEq δ] {e : γ → W} {e' : δ → W} {n m : Nat}
theorem emb_int : Emb W.int 0 := ⟨PyData.int, fun _ => rfl, fun _ => rfl, fun _ => Nat.le_refl _, fun x y => by
  show (x == y) = _
  by_cases h : x = y <;> simp [h]⟩
theorem emb_lst (h : Emb e n) : Emb (fun xs : List γ => W.lst (xs.map e)) (n + 1) := by
  obtain ⟨g, h1, h2, h3, h4⟩ := h.ex
  refine ⟨fun xs => .list (xs.map g), fun xs => ?_, fun xs => ?_, fun xs => ?_, fun xs ys => ?_⟩
  · simp only [toPD, toPDs_map h1, Option.map_some]
  · simp only [PyData.canLay0]; exact canAll_map h2 xs
  · simp only [PyData.depth]; exact Nat.succ_le_succ (depthAll_map h3 xs)
  · simp only [PyData.eqv]; exact eqvAll_map h4 xs ys
theorem emb_frl (h : Emb e n) : Emb (fun xs : List γ => W.frl (xs.map e)) (n + 1) := by
  obtain ⟨g, h1, h2, h3, h4⟩ := h.ex
  refine ⟨fun xs => .list (xs.map g), fun xs => ?_, fun xs => ?_, fun xs => ?_, fun xs ys => ?_⟩
  · simp only [toPD, toPDs_map h1, Option.map_some]
  · simp only [PyData.canLay0]; exact canAll_map h2 xs
  · simp only [PyData.depth]; exact Nat.succ_le_succ (depthAll_map h3 xs)
  · simp only [PyData.eqv]; exact eqvAll_map h4 xs ys
theorem emb_tup (h : Emb e n) : Emb (fun xs : List γ => W.tup (xs.map e)) (n + 1) := by
  obtain ⟨g, h1, h2, h3, h4⟩ := h.ex
  refine ⟨fun xs => .tuple (xs.map g), fun xs => ?_, fun xs => ?_, fun xs => ?_, fun xs ys => ?_⟩
  · simp only [toPD, toPDs_map h1, Option.map_some]
  · simp only [PyData.canLay0]; exact canAll_map h2 xs
  · simp only [PyData.depth]; exact Nat.succ_le_succ (depthAll_map h3 xs)
  · simp only [PyData.eqv]; exact eqvAll_map h4 xs ys
theorem emb_via (h : Emb e n) (f : δ → γ) (inj : ∀ x y, f x = f y → x = y) : Emb (fun x => e (f x)) n := by
  obtain ⟨g, h1, h2, h3, h4⟩ := h.ex
  refine ⟨fun x => g (f x), fun x => h1 _, fun x => h2 _, fun x => h3 _, fun x y => ?_⟩
  rw [h4]
  by_cases q : x = y
  · simp [q]
  · have : ¬ f x = f y := fun z => q (inj x y z)
    simp [q, this]
theorem shaped_of {d : PyData} (h1 : d.canLay0 = true) (h2 : d.depth ≤ 64) : SeqAt.shaped d = true := by
  unfold SeqAt.shaped
  rw [h1, decide_eq_true h2]; rfl
theorem eqP_emb (h : Emb e n) (hn : n ≤ 64) (x y : γ) : eqP (e x) (e y) = some (decide (x = y)) := by
  obtain ⟨g, h1, h2, h3, h4⟩ := h.ex
  unfold eqP
  simp only [h1]
  rw [if_pos ⟨shaped_of (h2 x) (Nat.le_trans (h3 x) hn), shaped_of (h2 y) (Nat.le_trans (h3 y) hn)⟩, h4]
theorem eqP_tl (h : Emb e n) (h' : Emb e' m) (hn : n < 64) (hm : m < 64) (xs : List γ) (ys : List δ) : eqP (.tup (xs.map e)) (.lst (ys.map e')) = some false := by
  obtain ⟨g, h1, h2, h3, h4⟩ := (emb_tup h).ex
  obtain ⟨g', k1, k2, k3, k4⟩ := (emb_lst h').ex
  have a := h1 xs
  have b := k1 ys
  obtain ⟨g0, l1, _⟩ := h.ex
  obtain ⟨g0', l1', _⟩ := h'.ex
  simp only [toPD, toPDs_map l1, Option.map_some, Option.some.injEq] at a
  simp only [toPD, toPDs_map l1', Option.map_some, Option.some.injEq] at b
  unfold eqP
  rw [h1 xs, k1 ys]
  simp only []
  rw [if_pos ⟨shaped_of (h2 _) (Nat.le_trans (h3 _) hn), shaped_of (k2 _) (Nat.le_trans (k3 _) hm)⟩, ← a, ← b]
  rfl
theorem anyP_emb (h : Emb e n) (hn : n < 64) (x : γ) (xs : List γ) : anyP (e x) (xs.map e) = some (decide (x ∈ xs)) := by
  obtain ⟨g, h1, h2, h3, h4⟩ := h.ex
  unfold anyP
  rw [h1, toPDs_map h1]
  simp only []
  rw [if_pos ⟨shaped_of (h2 x) (Nat.le_trans (h3 x) (Nat.le_of_lt hn)), shaped_of (by simp only [PyData.canLay0]; exact canAll_map h2 xs) (by simp only [PyData.depth]; exact Nat.succ_le_of_lt (Nat.lt_of_le_of_lt (depthAll_map h3 xs) hn))⟩]
  congr 1
  rw [List.any_map]
  rw [Bool.eq_iff_iff]
  simp only [List.any_eq_true, Function.comp_apply, h4, decide_eq_true_eq]
  constructor
  · rintro ⟨y, hy, rfl⟩; exact hy
  · intro hx; exact ⟨x, hx, rfl⟩
theorem fEqD_emb (h : Emb e n) (hn : n ≤ 64) (x y : γ) : fEqD (e x) (e y) = some (.imm (.bl (decide (x = y)))) := by unfold fEqD; rw [eqP_emb h hn]; rfl
theorem fNeD_emb (h : Emb e n) (hn : n ≤ 64) (x y : γ) : fNeD (e x) (e y) = some (.imm (.bl (decide (x ≠ y)))) := by
  unfold fNeD; rw [eqP_emb h hn]
  by_cases q : x = y <;> simp [q]
theorem fIn_lst (h : Emb e n) (hn : n < 64) (neg : Bool) (x : γ) (xs : List γ) : fIn neg (e x) (.lst (xs.map e)) = some (.imm (.bl (decide (x ∈ xs) != neg))) := by
  show orf _ _ _ _ = _
  unfold orf
  rw [show fInL neg (e x) (.lst (xs.map e)) = some (.imm (.bl (decide (x ∈ xs) != neg))) from by
    show (anyP (e x) (xs.map e)).map _ = _
    rw [anyP_emb h hn]; rfl]
theorem toVs_ints : ∀ xs : List Int, toVs (xs.map W.int) = some (xs.map V.int)
  | [] => rfl
  | x :: xs => by simp only [List.map_cons, toVs, toV, toVs_ints xs]
theorem inV_ints (x : Int) : ∀ xs : List Int, inV (.int x) (xs.map V.int) = decide (x ∈ xs)
  | [] => rfl
  | y :: ys => by
    have := inV_ints x ys
    unfold inV at this ⊢
    simp only [List.map_cons, List.any_cons, this]
    show ((y == x) || _) = _
    by_cases h : y = x
    · subst h; simp
    · have h' : ¬ x = y := fun z => h z.symm
      simp [h, h']
theorem fIn_tupI (neg : Bool) (x : Int) (xs : List Int) : fIn neg (.int x) (.tup (xs.map W.int)) = some (.imm (.bl (decide (x ∈ xs) != neg))) := by
  show orf _ _ _ _ = _
  unfold orf
  rw [show fInL neg (.int x) (.tup (xs.map W.int)) = none from rfl]
  simp only []
  rw [show fInT neg (.int x) (.tup (xs.map W.int)) = some (.imm (.bl (decide (x ∈ xs) != neg))) from by
    unfold fInT; simp only [toV, toVs_ints, inV_ints]]
end
theorem fEqD_i (a b : Int) : fEqD (.int a) (.int b) = some (.imm (.bl (decide (a = b)))) := fEqD_emb emb_int (by decide) a b
theorem fNeD_i (a b : Int) : fNeD (.int a) (.int b) = some (.imm (.bl (decide (a ≠ b)))) := fNeD_emb emb_int (by decide) a b
theorem fIn_lI (neg : Bool) (x : Int) (xs : List Int) : fIn neg (.int x) (.lst (xs.map W.int)) = some (.imm (.bl (decide (x ∈ xs) != neg))) := fIn_lst emb_int (by decide) neg x xs
end Z

set_option Elab.async false
set_option linter.all false
set_option maxRecDepth 100000
/-! Z27: loops by one statement for each turn. -/
namespace Z
open PySem PySem.Spec PyProof.Rows L2
/-- what a turn owes -/
def Nx (I : Nat → S → Prop) (R : Except Ex Fl → S → Prop) (i : Nat) : Except Ex Fl → S → Prop
  | .ok .nx, s => I (i + 1) s
  | .ok .ct, s => I (i + 1) s
  | .ok .bk, s => R (.ok .nx) s
  | r, s => R r s
section
variable {ws ws0 : List W} {k : Wk} {b : W → Mo Fl} {s : S} {F : Option (Except Ex Fl × S)} {I : Nat → S → Prop} {R : Except Ex Fl → S → Prop} {i : Nat}
@[simp] theorem nx_nx : Nx I R i (.ok .nx) s ↔ I (i + 1) s := Iff.rfl
@[simp] theorem nx_ct : Nx I R i (.ok .ct) s ↔ I (i + 1) s := Iff.rfl
@[simp] theorem nx_bk : Nx I R i (.ok .bk) s ↔ R (.ok .nx) s := Iff.rfl
@[simp] theorem nx_rt {f} : Nx I R i (.ok (.rt f)) s ↔ R (.ok (.rt f)) s := Iff.rfl
@[simp] theorem nx_er {x} : Nx I R i (.error x) s ↔ R (.error x) s := Iff.rfl
theorem forL_x (hF : forL k ws b s = F) (I : Nat → S → Prop) (R : Except Ex Fl → S → Prop) (hok : ∀ i s, I i s → k.ok s) (h0 : I 0 s) (hend : ∀ s, I ws.length s → R (.ok .nx) s)
    (h : ∀ (i : Nat) (hi : i < ws.length) (s : S), I i s → ∃ r s', b ws[i] s = some (r, s') ∧ Nx I R i r s') : ∃ r s', F = some (r, s') ∧ R r s' := forL_exitK hF (R := R) I hok h0 hend fun i hi s hI => by
  obtain ⟨r, s', e, hn⟩ := h i hi s hI
  match r, hn with
  | .ok .nx, hn => exact .inl ⟨s', .inl e, hn⟩
  | .ok .ct, hn => exact .inl ⟨s', .inr e, hn⟩
  | .ok .bk, hn => exact .inr (.inl ⟨s', e, hn⟩)
  | .ok (.rt f), hn => exact .inr (.inr (.inl ⟨f, s', e, hn⟩))
  | .error x, hn => exact .inr (.inr (.inr ⟨x, s', e, hn⟩))
end
end Z

set_option Elab.async false
set_option linter.all false
set_option maxRecDepth 100000
/-! Z28: list(range ..); comprehensions of two clauses. -/
namespace Z
open PySem PySem.Spec PyProof.Rows L2
/-- bounds of a range that is listed -/
def Rl (a b : Int) : Prop := RgOk a b
noncomputable instance (a b : Int) : Decidable (Rl a b) := Classical.propDecidable _
noncomputable def fLr1 : W → Option OR
  | .int j => if Rl 0 j then some (.newl (rngW 0 j.toNat)) else none
  | _ => none
noncomputable def fLr2 : W → W → Option OR
  | .int i, .int j => if Rl i j then some (.newl (rngW i (j - i).toNat)) else none
  | _, _ => none
section
variable {K : PySem.W.Frag} {mg : Str → Option Value} {ea : EA} {io io' : List Addr} {Fr Fr' : Addr → Prop} {s s' s2 : S} {σ σ' : L2.St} {H H' : Hp} {w : W} {v : V} {c : Cell} {o : HO} {a p : Addr} {ws : List W} {vs : List V} {M : Addr → Prop}
variable {Wx : WX}
theorem rws_rng {lo hi : Int} : Rws K mg io M H (rngW lo (hi - lo).toNat) (rgV lo hi) := by
  refine ⟨by simp [rngW, rgV], fun i w v h1 h2 => ?_⟩
  have hi := get_lt h1
  simp only [rngW, List.length_map, List.length_range] at hi
  simp only [rngW, rgV, List.getElem?_map, List.getElem?_range hi, Option.map_some, Option.some.injEq] at h1 h2
  subst h1 h2
  exact .int _
theorem ref_lr1 {ta : TE} {m : Mo RV} (h : RefE K mg ea Wx ta m) : RefE K mg ea Wx (tLstRg (tRg1 ta)) (mUn fLr1 m) := by
  refine ref_un (r := fun x H Q => ∃ n, x = .int n ∧ RgOk 0 n ∧ ∀ q, H q = none → Q (.ref q) (upd H q (.lst (rgV 0 n)))) (fun io M H x vx z Q rx e q => ?_) h
  unfold fLr1 at e
  split at e
  · split at e
    · rename_i hz
      cases e
      have := rx.int
      subst this
      refine ⟨_, rfl, hz, fun p hp => q p _ hp ?_⟩
      have := rws_rng (K := K) (mg := mg) (io := io) (M := M) (H := H) (lo := 0) (hi := ‹Int›)
      simpa using this
    · cases e
  · cases e
theorem ref_lr2 {X : Cx} {ta tb : TE} {m m' : Mo RV} (h : RefE K mg ea Wx ta m) (h' : RefE K mg ea Wx tb m') : RefE K mg ea Wx (tLstRg (tRg2 ta tb)) (mBin fLr2 m m') := by
  refine ref_op (X := X) (g := fun _ _ => pure .none) (r := fun x y H Q => ∃ i j, x = .int i ∧ y = .int j ∧ RgOk i j ∧ ∀ q, H q = none → Q (.ref q) (upd H q (.lst (rgV i j)))) (fun io M H x y vx vy z Q rx ry e q => ?_) h h'
  unfold fLr2 at e
  split at e
  · split at e
    · rename_i hz
      cases e
      have := rx.int
      subst this
      have := ry.int
      subst this
      exact ⟨_, _, rfl, rfl, hz, fun p hp => q p _ hp rws_rng⟩
    · cases e
  · cases e
theorem stp_upd {D : Addr} {o' : HO} (hD : M D) : Stp io M (fun _ => False) H io M (upd H D o') where
  p := ⟨fun b u e h => by rw [upd_ne (fun z => by subst z; exact h hD)]; exact e, fun b z => .inl z, fun _ _ e => e⟩
  fr := fun b z => z.elim
  trk := fun b u e => by
    by_cases h : b = D
    · exact ⟨o', by rw [h, upd_same]⟩
    · exact ⟨u, by rw [upd_ne h]; exact e⟩
/-- the second clause: the items so far, and the state -/
noncomputable def lcB (vs : List Nat) (t : W → Mo Unit) (tt : Mo Bool) (me : Mo RV) (k : Wk) : List W → List W → S → Option (List W × S)
  | [], acc => fun s => if k.ok s then some (acc, s) else none
  | w :: ws, acc => fun s => if k.ok s then (match (bnd (t w) fun _ => tt) s with
    | some (.ok true, s1) => match (bnd me fun x => freeze (settle x)) s1 with
      | some (.ok y, s2) => if acc.length < sz then lcB vs t tt me k ws (acc ++ [y]) (wipeS vs s2) else none
      | _ => none
    | some (.ok false, s1) => lcB vs t tt me k ws acc (wipeS vs s1)
    | _ => none) else none
noncomputable def lcL2 (vs vs1 : List Nat) (t : W → Mo Unit) (tt : Mo Bool) (mi1 : Mo Wk) (t1 : W → Mo Unit) (tt1 : Mo Bool) (me : Mo RV) (k : Wk) : List W → List W → Mo RV
  | [], acc => fun s => if k.ok s then some (.ok (.own (.lst acc)), s) else none
  | w :: ws, acc => fun s => if k.ok s then (match (bnd (t w) fun _ => tt) s with
    | some (.ok true, s1) => match mi1 s1 with
      | some (.ok k1, s2) => match lcB vs1 t1 tt1 me k1 k1.ws acc (wipeS vs1 s2) with
        | some (acc', s3) => lcL2 vs vs1 t tt mi1 t1 tt1 me k ws acc' (wipeS vs s3)
        | none => none
      | _ => none
    | some (.ok false, s1) => lcL2 vs vs1 t tt mi1 t1 tt1 me k ws acc (wipeS vs s1)
    | _ => none) else none
noncomputable def mLc2 (vs vs1 : List Nat) (mi : Mo Wk) (t : W → Mo Unit) (tt : Mo Bool) (mi1 : Mo Wk) (t1 : W → Mo Unit) (tt1 : Mo Bool) (me : Mo RV) : Mo RV := bnd mi fun k => fun s => lcL2 vs vs1 t tt mi1 t1 tt1 me k k.ws [] (wipeS vs s)
theorem ref_lc2 {wi wi1 : TI} {g g1 : TG} {tt tt1 : TT} {te : TE} {mi mi1 : Mo Wk} {t t1 : W → Mo Unit} {mt mt1 : Mo Bool} {me : Mo RV} {l l1 vs vs1 : List Nat} (hi : RefI K mg ea Wx wi mi) (hg : RefG K mg ea g t l) (hl : ∀ i ∈ l, i ∈ vs) (ht : RefT K mg ea W0 tt mt)
    (hi1 : RefI K mg ea W0 wi1 mi1) (hg1 : RefG K mg ea g1 t1 l1) (hl1 : ∀ i ∈ l1, i ∈ vs1) (hv : ∀ i ∈ vs1, i ∈ vs) (ht1 : RefT K mg ea W0 tt1 mt1) (he : RefE K mg ea W0 te me) :
    RefE K mg ea Wx (tLc2 wi g tt wi1 g1 tt1 te vs vs1) (mLc2 vs vs1 mi t mt mi1 t1 mt1 me) := by
  intro σ H io Fr s S0 r0 s' e Q hok hex
  rcases bnd_some e with ⟨x, e1, rfl⟩ | ⟨kw, s1, e1, e2⟩
  · exact hi σ H io Fr s S0 _ _ e1 _ (fun _ q => by cases q) fun x' q cls d H' io' px => by
      cases q
      exact hex _ rfl cls d H' io' px
  · refine hi σ H io Fr s S0 _ _ e1 _ (fun kw' q J H1 io1 px G => ?_) (fun _ q => by cases q)
    cases q
    intro D hD
    obtain ⟨SD, TD, nD⟩ := px.1.alloc (o := .lst []) hD
    have nFD : ¬ Fr D := fun z => nD (.inl z)
    obtain ⟨SW, lW⟩ := SD.wiped (l := vs) (σ' := wipe σ vs) (wipe_length σ vs) fun j hj => (wipe_get (σ := σ)).1 hj
    have TW := TD.less lW
    refine ⟨fun i m H2 => m = kw.ws.length - i ∧ i ≤ kw.ws.length ∧ ∃ io2 s2 acc av, Sim K mg ea io2 (pls Fr D) s2 (wipe σ vs) H2 ∧ Stp io1 (Ms io1 Fr s1 σ) Fr H1 io2 (Ms io2 (pls Fr D) s2 (wipe σ vs)) H2 ∧
      H2 D = some (.lst av) ∧ Rws K mg io2 (Ms io2 (pls Fr D) s2 (wipe σ vs)) H2 acc av ∧ (∀ j, j ∈ vs → s2.r[j]? = some .non ∨ s2.r[j]? = none) ∧ lcL2 vs vs1 t mt mi1 t1 mt1 me kw (kw.ws.drop i) acc s2 = some (r0, s'),
      ⟨kw.ws.length, by simp, Nat.zero_le _, io1, wipeS vs s1, [], [], SW, TW, upd_same, Rws.nil, fun j hj => (wipeR_get (r := s1.r)).2 hj, by simpa using e2⟩, ?_⟩
    rintro i m H2 ⟨rfl, hle, io2, s2, acc, av, S2, T2, hA, RA, wn, e3⟩
    have ck : kw.ok s2 := by
      cases hd : kw.ws.drop i with
      | nil =>
        rw [hd] at e3; unfold lcL2 at e3; split at e3
        · assumption
        · cases e3
      | cons w ws =>
        rw [hd] at e3; unfold lcL2 at e3; split at e3
        · assumption
        · cases e3
    have cn := cn_of S2 ck
    by_cases hlt : i < kw.ws.length
    · refine .inr ⟨G.go _ _ _ T2.p cn i hlt, fun H3 => ∃ io3 s3 acc av, Sim K mg ea io3 (pls Fr D) s3 (wipe σ vs) H3 ∧ Stp io1 (Ms io1 Fr s1 σ) Fr H1 io3 (Ms io3 (pls Fr D) s3 (wipe σ vs)) H3 ∧
        H3 D = some (.lst av) ∧ Rws K mg io3 (Ms io3 (pls Fr D) s3 (wipe σ vs)) H3 acc av ∧ (∀ j, j ∈ vs → s3.r[j]? = some .non ∨ s3.r[j]? = none) ∧ lcL2 vs vs1 t mt mi1 t1 mt1 me kw (kw.ws.drop (i + 1)) acc s3 = some (r0, s'),
        fun H3 ⟨io3, s3, acc, av, a1, a2, a3, a4, a6, a5⟩ => ⟨kw.ws.length - (i + 1), by omega, rfl, hlt, io3, s3, acc, av, a1, a2, a3, a4, a6, a5⟩, fun x H3 y => ?_⟩
      rw [drop_get hlt] at e3
      have item : ∃ io3, Sim K mg ea io3 (pls Fr D) s2 (wipe σ vs) H3 ∧ Stp io2 (Ms io2 (pls Fr D) s2 (wipe σ vs)) (pls Fr D) H2 io3 (Ms io3 (pls Fr D) s2 (wipe σ vs)) H3 ∧ Rw K mg io3 (Ms io3 (pls Fr D) s2 (wipe σ vs)) H3 kw.ws[i] x := by
        rcases G.yld _ _ _ T2.p cn (fun a z => S2.trkN z) i x H3 y kw.ws[i] (by simp [hlt]) with ⟨rfl, r⟩ | ⟨p, us, ws', hp, rfl, hw, rfl, r⟩
        · exact ⟨io2, S2, .refl, r⟩
        · obtain ⟨S3, T3⟩ := S2.laid (o := .tup us) hp
          have r' := r.pers T3.p
          refine ⟨io2, S3, T3, ?_⟩
          rw [hw]
          refine .tup (.inl ⟨upd_same, fun z => ?_⟩) r'.1 r'.2
          obtain ⟨u, e⟩ := S2.trk z
          rw [hp] at e; cases e
      obtain ⟨io3, S3, T3, R3⟩ := item
      have T23 := T2.trans (T3.frless pls.sub)
      have hA3 : H3 D = some (.lst av) := (T3.fr D (.inr rfl)).trans hA
      have RA3 := RA.pers T3.p
      unfold lcL2 at e3
      rw [if_pos ck] at e3
      cases ex : (bnd (t kw.ws[i]) fun _ => mt) s2 with
      | none => rw [ex] at e3; cases e3
      | some pr =>
        obtain ⟨rb, s4⟩ := pr
        rw [ex] at e3
        rcases bnd_some ex with ⟨z, e5, rfl⟩ | ⟨_, s5, e5, e6⟩
        · have := hg.ne _ _ _ _ e5
          cases this
        · refine hg.go (wipe σ vs) H3 io3 (pls Fr D) s2 _ x S3 R3 _ _ e5 _ fun σ5 S5 l5 n5 k5 => ?_
          have k5' : ∀ j, j ∉ vs → σ5[j]? = (wipe σ vs)[j]? := fun j hj => k5 j fun z => hj (hl j z)
          have we : wipe σ5 vs = wipe σ vs := by rw [wipe_eq n5 k5', wipe_wipe]
          refine ⟨we, ?_⟩
          have T5 : Stp io3 (Ms io3 (pls Fr D) s2 (wipe σ vs)) (pls Fr D) H3 io3 (Ms io3 (pls Fr D) s5 σ5) H3 := Stp.refl.less l5
          have back : ∀ {s6 : S} {H6 : Hp} {io6 : List Addr}, Sim K mg ea io6 (pls Fr D) s6 σ5 H6 → Sim K mg ea io6 (pls Fr D) (wipeS vs s6) (wipe σ vs) H6 ∧ (∀ b, Ms io6 (pls Fr D) (wipeS vs s6) (wipe σ vs) b → Ms io6 (pls Fr D) s6 σ5 b) := fun S6 =>
            S6.wiped (by rw [n5]) fun j hj => (k5' j hj).symm
          have back1 : ∀ {s6 : S} {H6 : Hp} {io6 : List Addr}, Sim K mg ea io6 (pls Fr D) s6 (wipe σ5 vs1) H6 → Sim K mg ea io6 (pls Fr D) (wipeS vs s6) (wipe σ vs) H6 ∧ (∀ b, Ms io6 (pls Fr D) (wipeS vs s6) (wipe σ vs) b → Ms io6 (pls Fr D) s6 (wipe σ5 vs1) b) := fun S6 =>
            S6.wiped (by simp only [wipe_length, n5]) fun j hj => by rw [(wipe_get (σ := σ5)).1 fun z => hj (hv j z)]; exact (k5' j hj).symm
          cases rb with
          | error z => cases e3
          | ok b =>
            refine ht σ5 H3 io3 (pls Fr D) s5 S5 _ _ e6 _ (fun b' q H6 io6 p6 => ?_) fun z q => by cases q
            cases q
            have T36 := T23.trans ((T5.trans p6.2).frless pls.sub)
            have hA6 : H6 D = some (.lst av) := (p6.2.fr D (.inr rfl)).trans hA3
            have RA6 := (RA3.pers T5.p).pers p6.2.p
            cases b with
            | false =>
              rw [if_neg Bool.false_ne_true]
              obtain ⟨S7, l7⟩ := back p6.1
              exact ⟨io6, _, acc, av, S7, T36.less l7, hA6, RA6.pers (.less l7), fun j hj => (wipeR_get (r := s4.r)).2 hj, e3⟩
            | true =>
              rw [if_pos rfl]
              simp only at e3
              cases em : mi1 s4 with
              | none => rw [em] at e3; cases e3
              | some pr1 =>
                obtain ⟨rk, s6⟩ := pr1
                rw [em] at e3
                cases rk with
                | error z => cases e3
                | ok k1 =>
                  simp only at e3
                  cases eb : lcB vs1 t1 mt1 me k1 k1.ws acc (wipeS vs1 s6) with
                  | none => rw [eb] at e3; cases e3
                  | some pr2 =>
                    obtain ⟨accF, sF⟩ := pr2
                    rw [eb] at e3
                    simp only at e3
                    refine hi1 σ5 H6 io6 (pls Fr D) s4 p6.1 _ _ em _ (fun kw' q J1 H7 io7 p7 G1 => ?_) fun z q => by cases q
                    cases q
                    obtain ⟨S7, l7⟩ := p7.1.wiped (l := vs1) (σ' := wipe σ5 vs1) (wipe_length σ5 vs1) fun j hj => (wipe_get (σ := σ5)).1 hj
                    have T37 := T36.trans (p7.2.frless pls.sub)
                    have hA7 : H7 D = some (.lst av) := (p7.2.fr D (.inr rfl)).trans hA6
                    have RA7 := RA6.pers p7.2.p
                    refine ⟨fun j m H8 => m = k1.ws.length - j ∧ j ≤ k1.ws.length ∧ ∃ io8 s8 acc8 av8, Sim K mg ea io8 (pls Fr D) s8 (wipe σ5 vs1) H8 ∧ Stp io1 (Ms io1 Fr s1 σ) Fr H1 io8 (Ms io8 (pls Fr D) s8 (wipe σ5 vs1)) H8 ∧
                      Stp io7 (Ms io7 (pls Fr D) s6 σ5) (fun _ => False) H7 io8 (Ms io8 (pls Fr D) s8 (wipe σ5 vs1)) H8 ∧
                      H8 D = some (.lst av8) ∧ Rws K mg io8 (Ms io8 (pls Fr D) s8 (wipe σ5 vs1)) H8 acc8 av8 ∧ lcB vs1 t1 mt1 me k1 (k1.ws.drop j) acc8 s8 = some (accF, sF),
                      ⟨k1.ws.length, by simp, Nat.zero_le _, io7, wipeS vs1 s6, acc, av, S7, T37.less l7, Stp.refl.less l7, hA7, RA7.pers (.less l7), by simpa using eb⟩, ?_⟩
                    rintro j m H8 ⟨rfl, hle1, io8, s8, acc8, av8, S8, T8, T78, hA8, RA8, e8⟩
                    have ck1 : k1.ok s8 := by
                      cases hd : k1.ws.drop j with
                      | nil =>
                        rw [hd] at e8; unfold lcB at e8; split at e8
                        · assumption
                        · cases e8
                      | cons w ws =>
                        rw [hd] at e8; unfold lcB at e8; split at e8
                        · assumption
                        · cases e8
                    have cn1 := cn_of S8 ck1
                    by_cases hlt1 : j < k1.ws.length
                    · refine .inr ⟨G1.go _ _ _ T78.p cn1 j hlt1, fun H9 => ∃ io8 s8 acc8 av8, Sim K mg ea io8 (pls Fr D) s8 (wipe σ5 vs1) H9 ∧ Stp io1 (Ms io1 Fr s1 σ) Fr H1 io8 (Ms io8 (pls Fr D) s8 (wipe σ5 vs1)) H9 ∧
                        Stp io7 (Ms io7 (pls Fr D) s6 σ5) (fun _ => False) H7 io8 (Ms io8 (pls Fr D) s8 (wipe σ5 vs1)) H9 ∧
                        H9 D = some (.lst av8) ∧ Rws K mg io8 (Ms io8 (pls Fr D) s8 (wipe σ5 vs1)) H9 acc8 av8 ∧ lcB vs1 t1 mt1 me k1 (k1.ws.drop (j + 1)) acc8 s8 = some (accF, sF),
                        fun H9 ⟨io8, s8, acc8, av8, a1, a2, a3, a4, a5, a6⟩ => ⟨k1.ws.length - (j + 1), by omega, rfl, hlt1, io8, s8, acc8, av8, a1, a2, a3, a4, a5, a6⟩, fun x1 H9 y1 => ?_⟩
                      rw [drop_get hlt1] at e8
                      have item1 : ∃ io9, Sim K mg ea io9 (pls Fr D) s8 (wipe σ5 vs1) H9 ∧ Stp io8 (Ms io8 (pls Fr D) s8 (wipe σ5 vs1)) (pls Fr D) H8 io9 (Ms io9 (pls Fr D) s8 (wipe σ5 vs1)) H9 ∧ Rw K mg io9 (Ms io9 (pls Fr D) s8 (wipe σ5 vs1)) H9 k1.ws[j] x1 := by
                        rcases G1.yld _ _ _ T78.p cn1 (fun a z => S8.trkN z) j x1 H9 y1 k1.ws[j] (by simp [hlt1]) with ⟨rfl, r⟩ | ⟨p, us, ws', hp, rfl, hw, rfl, r⟩
                        · exact ⟨io8, S8, .refl, r⟩
                        · obtain ⟨S3, T3⟩ := S8.laid (o := .tup us) hp
                          have r' := r.pers T3.p
                          refine ⟨io8, S3, T3, ?_⟩
                          rw [hw]
                          refine .tup (.inl ⟨upd_same, fun z => ?_⟩) r'.1 r'.2
                          obtain ⟨u, e⟩ := S8.trk z
                          rw [hp] at e; cases e
                      obtain ⟨io9, S9, T9, R9⟩ := item1
                      have T19 := T8.trans (T9.frless pls.sub)
                      have T79 := T78.trans (T9.frless fun b z => z.elim)
                      have hA9 : H9 D = some (.lst av8) := (T9.fr D (.inr rfl)).trans hA8
                      have RA9 := RA8.pers T9.p
                      unfold lcB at e8
                      rw [if_pos ck1] at e8
                      cases ex1 : (bnd (t1 k1.ws[j]) fun _ => mt1) s8 with
                      | none => rw [ex1] at e8; cases e8
                      | some pr3 =>
                        obtain ⟨rb1, s10⟩ := pr3
                        rw [ex1] at e8
                        rcases bnd_some ex1 with ⟨z, e9, rfl⟩ | ⟨_, s11, e9, e10⟩
                        · have := hg1.ne _ _ _ _ e9
                          cases this
                        · refine hg1.go (wipe σ5 vs1) H9 io9 (pls Fr D) s8 _ x1 S9 R9 _ _ e9 _ fun σ6 S11 l11 n11 k11 => ?_
                          have k11' : ∀ j, j ∉ vs1 → σ6[j]? = (wipe σ5 vs1)[j]? := fun j hj => k11 j fun z => hj (hl1 j z)
                          have we1 : wipe σ6 vs1 = wipe σ5 vs1 := by rw [wipe_eq n11 k11', wipe_wipe]
                          refine ⟨we1, ?_⟩
                          have T11 : Stp io9 (Ms io9 (pls Fr D) s8 (wipe σ5 vs1)) (pls Fr D) H9 io9 (Ms io9 (pls Fr D) s11 σ6) H9 := Stp.refl.less l11
                          have back2 : ∀ {s6 : S} {H6 : Hp} {io6 : List Addr}, Sim K mg ea io6 (pls Fr D) s6 σ6 H6 → Sim K mg ea io6 (pls Fr D) (wipeS vs1 s6) (wipe σ5 vs1) H6 ∧ (∀ b, Ms io6 (pls Fr D) (wipeS vs1 s6) (wipe σ5 vs1) b → Ms io6 (pls Fr D) s6 σ6 b) := fun S6 =>
                            S6.wiped (by rw [n11]) fun j hj => (k11' j hj).symm
                          cases rb1 with
                          | error z => cases e8
                          | ok b1 =>
                            refine ht1 σ6 H9 io9 (pls Fr D) s11 S11 _ _ e10 _ (fun b' q H12 io12 p12 => ?_) fun z q => by cases q
                            cases q
                            have T12 := T11.trans p12.2
                            have T112 := T19.trans (T12.frless pls.sub)
                            have T712 := T79.trans (T12.frless fun b z => z.elim)
                            have hA12 : H12 D = some (.lst av8) := (T12.fr D (.inr rfl)).trans hA9
                            have RA12 := RA9.pers T12.p
                            cases b1 with
                            | false =>
                              rw [if_neg Bool.false_ne_true]
                              obtain ⟨S13, l13⟩ := back2 p12.1
                              exact ⟨io12, _, acc8, av8, S13, T112.less l13, T712.less l13, hA12, RA12.pers (.less l13), e8⟩
                            | true =>
                              rw [if_pos rfl]
                              simp only at e8
                              cases ey : (bnd me fun x => freeze (settle x)) s10 with
                              | none => rw [ey] at e8; cases e8
                              | some pr4 =>
                                obtain ⟨ry, s13⟩ := pr4
                                rw [ey] at e8
                                cases ry with
                                | error z => cases e8
                                | ok yv =>
                                  simp only at e8
                                  split at e8
                                  · rename_i hz
                                    refine one2 he p12.1 ey (fun x q => by cases q) fun xr v s14 H14 io14 e14 p14 => ?_
                                    obtain ⟨S14, T14, R14⟩ := p14.settled
                                    obtain ⟨_, l15, S15, w', q, R15⟩ := freeze_ok S14 R14 e14
                                    cases q
                                    have hA14 : H14 D = some (.lst av8) := (T14.fr D (.inr rfl)).trans hA12
                                    have RA14 := (RA12.pers T14.p).pers (.less l15)
                                    refine ⟨av8, hA14, by rw [sz_eq, ← RA14.1]; exact hz, ?_⟩
                                    have S16 := S15.updFr (o' := .lst (av8 ++ [v])) (.inr rfl) hA14
                                    obtain ⟨S17, l17⟩ := back2 S16
                                    have T17 : Stp io1 (Ms io1 Fr s1 σ) Fr H1 io14 (Ms io14 (pls Fr D) (wipeS vs1 s13) (wipe σ5 vs1)) (upd H14 D (.lst (av8 ++ [v]))) :=
                                      ((T112.trans ((T14.less l15).frless pls.sub)).updNew hD nFD hA14).less l17
                                    have T7b : Stp io7 (Ms io7 (pls Fr D) s6 σ5) (fun _ => False) H7 io14 (Ms io14 (pls Fr D) s13 σ6) H14 := T712.trans ((T14.less l15).frless fun b z => z.elim)
                                    have T7c : Stp io7 (Ms io7 (pls Fr D) s6 σ5) (fun _ => False) H7 io14 (Ms io14 (pls Fr D) (wipeS vs1 s13) (wipe σ5 vs1)) (upd H14 D (.lst (av8 ++ [v]))) := (T7b.trans (stp_upd (.inr (.inl (.inr rfl))))).less l17
                                    have PD : Pers io14 (Ms io14 (pls Fr D) s13 σ6) H14 io14 (Ms io14 (pls Fr D) (wipeS vs1 s13) (wipe σ5 vs1)) (upd H14 D (.lst (av8 ++ [v]))) :=
                                      ⟨fun b u e h => by rw [upd_ne (fun z => by subst z; exact h (.inr (.inl (.inr rfl))))]; exact e, fun b z => .inl (l17 b z), fun _ _ e => e⟩
                                    exact ⟨io14, _, acc8 ++ [yv], av8 ++ [v], S17, T17, T7c, upd_same, (RA14.append (Rws.one R15)).pers PD, e8⟩
                                  · cases e8
                    · have hi' : j = k1.ws.length := by omega
                      subst hi'
                      rw [List.drop_length] at e8
                      unfold lcB at e8
                      rw [if_pos ck1] at e8
                      cases e8
                      obtain ⟨S13, l13⟩ := back1 S8
                      exact .inl ⟨G1.stop _ _ _ T78.p cn1, io8, _, accF, av8, S13, T8.less l13, hA8, RA8.pers (.less l13), fun j hj => (wipeR_get (r := sF.r)).2 hj, e3⟩
    · have hi' : i = kw.ws.length := by omega
      subst hi'
      rw [List.drop_length] at e3
      unfold lcL2 at e3
      rw [if_pos ck] at e3
      cases e3
      refine .inl ⟨G.stop _ _ _ T2.p cn, hok _ rfl (.ref D) H2 io2 ?_⟩
      obtain ⟨S3, l3⟩ := S2.sub (r' := s'.r) (σ' := σ) (by rw [S2.len, wipe_length]) fun j => by
        by_cases hj : j ∈ vs
        · exact .inr (wn j hj)
        · exact .inl ⟨rfl, ((wipe_get (σ := σ)).1 hj).symm⟩
      refine ⟨D, .lst av, rfl, hA, fun z => ?_, S3, (px.2.trans T2).less l3, av, rfl, RA.pers (.less l3)⟩
      rcases z with z | ⟨j, c, h1, h2⟩
      · exact nFD z
      · obtain ⟨b, o, q1, _, _, q4⟩ := S3.own j c h1
        rw [h2] at q1
        cases q1
        exact q4 (.inr rfl)
end
section
variable {X : Cx} {ea : EA} {Wx : WX} {pos p p2 pos2 : Pos} {a b : Expr} {m m' : Mo RV}
def iOf (K : PySem.W.Frag) (mg : Str → Option Value) (ea : EA) (Wx : WX) (m : Mo Wk) : TI := fun σ H R => ∃ io Fr s r s', Sim K mg ea io Fr s σ H ∧ m s = some (r, s') ∧ (∀ k, r = .ok k → ∀ J H' io', PostS K mg ea io Fr s σ H s' σ io' H' → ItG K mg J k io' (Ms io' Fr s' σ) H' → R J H') ∧
  (∀ x, r = .error x → ∀ cls d H' io', PostX K mg ea io Fr s σ H s' σ io' H' x cls d → Wx cls d σ H')
theorem ref_iOf {K : PySem.W.Frag} {mg : Str → Option Value} (m : Mo Wk) : RefI K mg ea Wx (iOf K mg ea Wx m) m := fun σ H io Fr s S0 r s' e Q h1 h2 => ⟨io, Fr, s, r, s', S0, e, h1, h2⟩
theorem Pei.can {tg iter : Expr} {mi : Mo Wk} (h : Pei X ea Wx tg iter mi) : PI X tg iter (iOf X.K X.mg ea Wx mi) := by
  obtain ⟨wi, q, r⟩ := h.ex
  exact ⟨fun pins s σ H R I ⟨io, Fr, s1, r0, s', S0, e, h1, h2⟩ => q.run pins s σ H R I (r σ H io Fr s1 S0 r0 s' e R h1 h2)⟩
structure Blk2 (X : Cx) (ea : EA) (tg elt : Expr) (ifs : List Expr) (tg1 iter1 : Expr) (ifs1 : List Expr) (scope : Scope) (own : List (Str × Nat)) (vs1 : List Nat) (t : W → Mo Unit) (l : List Nat) (mt : Mo Bool) (mi1 : Mo Wk) (t1 : W → Mo Unit) (l1 : List Nat) (mt1 : Mo Bool) (me : Mo RV) : Prop where
  ok : BlkOk X.N X.env.scope scope own
  ne : ∀ w s r s', t w s = some (r, s') → r = .ok ()
  sub : ∀ i ∈ l, i ∈ own.map (·.2)
  ne1 : ∀ w s r s', t1 w s = some (r, s') → r = .ok ()
  sub1 : ∀ i ∈ l1, i ∈ vs1
  hv : ∀ i ∈ vs1, i ∈ own.map (·.2)
  tg : ∀ (s : Shared) (H : Hp) (C : Addr) (cl : List (Str × Addr)) (fp : List Addr), Peg (X.blk s H scope (compEnvC scope cl C X.env) fp) ea tg t l
  ts : ∀ (s : Shared) (H : Hp) (C : Addr) (cl : List (Str × Addr)) (fp : List Addr), Pets (X.blk s H scope (compEnvC scope cl C X.env) fp) ea W0 ifs mt
  it : ∀ (s : Shared) (H : Hp) (C : Addr) (cl : List (Str × Addr)) (fp : List Addr), Pei (X.blk s H scope (compEnvC scope cl C X.env) fp) ea W0 tg1 iter1 mi1
  tg1 : ∀ (s : Shared) (H : Hp) (C : Addr) (cl : List (Str × Addr)) (fp : List Addr), Peg (X.blk s H scope (compEnvC scope cl C X.env) fp) ea tg1 t1 l1
  ts1 : ∀ (s : Shared) (H : Hp) (C : Addr) (cl : List (Str × Addr)) (fp : List Addr), Pets (X.blk s H scope (compEnvC scope cl C X.env) fp) ea W0 ifs1 mt1
  el : ∀ (s : Shared) (H : Hp) (C : Addr) (cl : List (Str × Addr)) (fp : List Addr), Pee (X.blk s H scope (compEnvC scope cl C X.env) fp) ea W0 elt me
section
variable {tg elt tg1 iter iter1 : Expr} {ifs ifs1 : List Expr} {scope : Scope} {own : List (Str × Nat)} {vs1 : List Nat} {t : W → Mo Unit} {l : List Nat} {mt : Mo Bool} {mi mi1 : Mo Wk} {t1 : W → Mo Unit} {l1 : List Nat} {mt1 : Mo Bool} {me : Mo RV}
theorem Blk2.ref (b : Blk2 X ea tg elt ifs tg1 iter1 ifs1 scope own vs1 t l mt mi1 t1 l1 mt1 me) {wi : TI} (r : RefI X.K X.mg ea Wx wi mi) : RefE X.K X.mg ea Wx (tLc2 wi (gOf X.K X.mg ea t l) (ttOf X.K X.mg ea W0 mt) (iOf X.K X.mg ea W0 mi1) (gOf X.K X.mg ea t1 l1) (ttOf X.K X.mg ea W0 mt1) (tOf X.K X.mg ea W0 me) (own.map (·.2)) vs1) (mLc2 (own.map (·.2)) vs1 mi t mt mi1 t1 mt1 me) :=
  ref_lc2 r (ref_gOf b.ne) b.sub (ref_ttOf _) (ref_iOf _) (ref_gOf b.ne1) b.sub1 b.hv (ref_ttOf _) (ref_tOf _)
theorem pee_lc2 (hN : X.N.Nodup) (hi : Pei X ea Wx tg iter mi) (b : Blk2 X ea tg elt ifs tg1 iter1 ifs1 scope own vs1 t l mt mi1 t1 l1 mt1 me) (hc : X.calm = true := by rfl) (hs : ∀ x, foldedSetIterable iter X.env x = pure x := by intro _; rfl) (hs1 : ∀ env x, foldedSetIterable iter1 env x = pure x := by intro _ _; rfl) :
    Pee X ea Wx (.ListComp elt [⟨tg, iter, ifs, 0⟩, ⟨tg1, iter1, ifs1, 0⟩] scope pos) (mLc2 (own.map (·.2)) vs1 mi t mt mi1 t1 mt1 me) := by
  obtain ⟨wi, p, r⟩ := hi.ex
  exact ⟨_, pe_lc2 hc hN p b.ok b.hv (fun s H C cl fp => (b.tg s H C cl fp).can) (fun s H C cl fp => (b.ts s H C cl fp).can) (fun s H C cl fp => (b.it s H C cl fp).can) (fun s H C cl fp => (b.tg1 s H C cl fp).can) (fun s H C cl fp => (b.ts1 s H C cl fp).can) (fun s H C cl fp => (b.el s H C cl fp).can) hs hs1, b.ref r⟩
theorem pes_setLc2 (i : Nat) {y : Str} {py spos : Pos} (hN : X.N.Nodup) (hi : Pei X ea Wx tg iter mi) (b : Blk2 X ea tg elt ifs tg1 iter1 ifs1 scope own vs1 t l mt mi1 t1 l1 mt1 me) (hy : X.N[i]? = some y := by rfl) (hyl : X.env.scope.names.lookup y = some .local := by rfl)
    (hsw : swapsWith (.ListComp elt [⟨tg, iter, ifs, 0⟩, ⟨tg1, iter1, ifs1, 0⟩] scope pos) (some (.Name y py)) spos.line X.env = pure true := by exact sw_true rfl rfl rfl (by decide +kernel)) (hc : X.calm = true := by rfl) (hs : ∀ x, foldedSetIterable iter X.env x = pure x := by intro _; rfl) (hs1 : ∀ env x, foldedSetIterable iter1 env x = pure x := by intro _ _; rfl) :
    Pes X ea Wx (.Assign [.Name y py] (.ListComp elt [⟨tg, iter, ifs, 0⟩, ⟨tg1, iter1, ifs1, 0⟩] scope pos) spos) (mAsg i (mLc2 (own.map (·.2)) vs1 mi t mt mi1 t1 mt1 me)) := by
  obtain ⟨wi, p, r⟩ := hi.ex
  exact ⟨_, ps_setLc2 hc hN hy hyl hsw p b.ok b.hv (fun s H C cl fp => (b.tg s H C cl fp).can) (fun s H C cl fp => (b.ts s H C cl fp).can) (fun s H C cl fp => (b.it s H C cl fp).can) (fun s H C cl fp => (b.tg1 s H C cl fp).can) (fun s H C cl fp => (b.ts1 s H C cl fp).can) (fun s H C cl fp => (b.el s H C cl fp).can) hs hs1, ref_asg i (b.ref r)⟩
end
theorem pee_lr1 (hm : X.mg "list" = none) (hr : X.mg "range" = none) (h : Pee X ea Wx a m) (hc : X.calm = true := by rfl) (hg : Gl X "list" := by rfl) (hg2 : Gl X "range" := by rfl) (na : starEach [a] X.env = (false, eval a X.env) :: starEach [] X.env := by rfl)
    (nb : starEach [.Call (.Name "range" p2) [a] [] pos2] X.env = (false, eval (.Call (.Name "range" p2) [a] [] pos2) X.env) :: starEach [] X.env := by rfl) :
    Pee X ea Wx (.Call (.Name "list" p) [.Call (.Name "range" p2) [a] [] pos2] [] pos) (mUn fLr1 m) := let ⟨_, q, r⟩ := h.ex; ⟨_, pe_listRg hc hg hm (prg_1 hg2 hr q na) nb, ref_lr1 r⟩
theorem pee_lr2 (hm : X.mg "list" = none) (hr : X.mg "range" = none) (h : Pee X ea Wx a m) (h' : Pee X ea Wx b m') (hc : X.calm = true := by rfl) (hg : Gl X "list" := by rfl) (hg2 : Gl X "range" := by rfl) (na : starEach [a, b] X.env = (false, eval a X.env) :: starEach [b] X.env := by rfl) (na2 : starEach [b] X.env = (false, eval b X.env) :: starEach [] X.env := by rfl) (hp : (backTo pos2 (starEach [b] X.env)).any (·.1) = false := by rfl)
    (nb : starEach [.Call (.Name "range" p2) [a, b] [] pos2] X.env = (false, eval (.Call (.Name "range" p2) [a, b] [] pos2) X.env) :: starEach [] X.env := by rfl) :
    Pee X ea Wx (.Call (.Name "list" p) [.Call (.Name "range" p2) [a, b] [] pos2] [] pos) (mBin fLr2 m m') := let ⟨_, q, r⟩ := h.ex; let ⟨_, q', r'⟩ := h'.ex; ⟨_, pe_listRg hc hg hm (prg_2 hg2 hr q q' na na2 hp) nb, ref_lr2 (X := X) r r'⟩
end
end Z

set_option Elab.async false
set_option linter.all false
set_option maxRecDepth 100000
/-! Z29: comprehensions of two clauses, evaluated. -/
namespace Z
open PySem PySem.Spec PyProof.Rows L2
section
variable {r : List SV} {G : List Cell} {m ma mb me : Mo RV} {s : S} {vs vs1 : List Nat} {t t1 : W → Mo Unit} {tt tt1 : Mo Bool} {mi mi1 : Mo Wk} {k : Wk} {a b : Int}
@[simp] theorem mLc2_e : mLc2 vs vs1 mi t tt mi1 t1 tt1 me ⟨r, G⟩ = bnd mi (fun k s => lcL2 vs vs1 t tt mi1 t1 tt1 me k k.ws [] (wipeS vs s)) ⟨r, G⟩ := rfl
@[simp] theorem fLr1_i : fLr1 (.int a) = if Rl 0 a then some (.newl (rngW 0 a.toNat)) else none := rfl
@[simp] theorem fLr2_i : fLr2 (.int a) (.int b) = if Rl a b then some (.newl (rngW a (b - a).toNat)) else none := rfl
theorem rl_nat {n : Nat} (h : n ≤ 1000000) : Rl 0 (n : Int) := by
  unfold Rl RgOk
  omega
theorem rl_le {i j : Int} (h1 : 0 ≤ i) (h2 : j ≤ 1000000) (h3 : i ≤ 1000000) (h4 : 0 ≤ j) : Rl i j := by
  unfold Rl RgOk
  omega
variable {γ δ : Type} {e : γ → W} {e1 : δ → W}
theorem lcB_pure (hk : k.ok s) (p : γ → Bool) (f : γ → W) : ∀ (xs : List γ) (acc : List W), (∀ x ∈ xs, ∃ s1, (bnd (t (e x)) fun _ => tt) s = some (.ok (p x), s1) ∧ (p x = true → ∃ s2, (bnd me fun y => freeze (settle y)) s1 = some (.ok (f x), s2) ∧ wipeS vs s2 = s) ∧ (p x = false → wipeS vs s1 = s)) →
    acc.length + xs.length ≤ sz → lcB vs t tt me k (xs.map e) acc s = some (acc ++ (xs.filter p).map f, s)
  | [], acc, _, _ => by
    simp only [List.map_nil, List.filter_nil, List.append_nil]
    unfold lcB
    exact if_pos hk
  | x :: xs, acc, h, hl => by
    obtain ⟨s1, e1, h1, h2⟩ := h x List.mem_cons_self
    have hr := fun y hy => h y (List.mem_cons_of_mem x hy)
    simp only [List.map_cons]
    unfold lcB
    rw [if_pos hk, e1]
    cases q : p x with
    | true =>
      obtain ⟨s2, e2, e3⟩ := h1 q
      simp only [e2]
      rw [if_pos (by simp at hl; omega), e3, lcB_pure hk p f xs _ hr (by simp at hl ⊢; omega)]
      simp [List.filter_cons, q]
    | false =>
      simp only []
      rw [h2 q, lcB_pure hk p f xs _ hr (by simp at hl ⊢; omega)]
      simp [List.filter_cons, q]
theorem lc2_pure (hk : k.ok s) (ys : γ → List δ) (p : γ → δ → Bool) (f : γ → δ → W) : ∀ (xs : List γ) (acc : List W), (∀ x ∈ xs, ∃ s1, (bnd (t (e x)) fun _ => tt) s = some (.ok true, s1) ∧ ∃ k1 s2, mi1 s1 = some (.ok k1, s2) ∧ k1.ws = (ys x).map e1 ∧ k1.ok (wipeS vs1 s2) ∧ wipeS vs (wipeS vs1 s2) = s ∧
      ∀ y ∈ ys x, ∃ s4, (bnd (t1 (e1 y)) fun _ => tt1) (wipeS vs1 s2) = some (.ok (p x y), s4) ∧ (p x y = true → ∃ s5, (bnd me fun y => freeze (settle y)) s4 = some (.ok (f x y), s5) ∧ wipeS vs1 s5 = wipeS vs1 s2) ∧ (p x y = false → wipeS vs1 s4 = wipeS vs1 s2)) →
    acc.length + (xs.map fun x => (ys x).length).sum ≤ sz → lcL2 vs vs1 t tt mi1 t1 tt1 me k (xs.map e) acc s = some (.ok (.own (.lst (acc ++ xs.flatMap fun x => ((ys x).filter (p x)).map (f x)))), s)
  | [], acc, _, _ => by
    simp only [List.map_nil, List.flatMap_nil, List.append_nil]
    unfold lcL2
    exact if_pos hk
  | x :: xs, acc, h, hl => by
    obtain ⟨s1, q1, k1, s2, q2, q3, q4, q5, q6⟩ := h x List.mem_cons_self
    have hr := fun y hy => h y (List.mem_cons_of_mem x hy)
    simp only [List.map_cons]
    unfold lcL2
    rw [if_pos hk, q1]
    simp only [q2, q3]
    simp only [List.map_cons, List.sum_cons] at hl
    have hf : ((ys x).filter (p x)).length ≤ (ys x).length := List.length_filter_le _ _
    rw [lcB_pure q4 (p x) (f x) (ys x) acc q6 (by omega)]
    simp only []
    rw [q5, lc2_pure hk ys p f xs _ hr (by simp; omega)]
    simp
end
/-- what a def's body hands back -/
def outF : Option (Except Ex Fl × S) → Option (Except Ex FV × List Cell)
  | some (.ok (.rt f), s) => some (.ok f, s.G)
  | some (.ok .nx, s) => some (.ok (.val .non), s.G)
  | some (.error x, s) => some (.error x, s.G)
  | _ => none
theorem fnM_o {n : Nat} {body : Mo Fl} {ws : List W} {G : List Cell} : fnM n body ws G = outF (body ⟨ws.map SV.val ++ List.replicate (n - ws.length) SV.non, G⟩) := rfl
@[simp] theorem outF_rt {f : FV} {s : S} : outF (some (.ok (.rt f), s)) = some (.ok f, s.G) := rfl
@[simp] theorem outF_nx {s : S} : outF (some (.ok .nx, s)) = some (.ok (.val .non), s.G) := rfl
@[simp] theorem outF_er {x : Ex} {s : S} : outF (some (.error x, s)) = some (.error x, s.G) := rfl
end Z

set_option Elab.async false
set_option linter.all false
set_option maxRecDepth 100000
/-! Z30: dict comprehensions of any number of clauses, keys tuples; what is made stays locked. -/
namespace Z
open PySem PySem.Spec PyProof.Rows L2
/-- one turn of a clause: the next item, its store, the tests, what stands behind them -/
def turnSem (tg : Expr) (pos : Pos) (cs : List Expr) (src : Value) (en : Env) (inner : Sem Fin → Sem Fin) (ag : Sem Fin) : Sem Fin := do
  standAt pos
  match ← pyNext src with
  | none => pure (.done .next)
  | some item =>
    letOwnedTupleGo tg src item
    assign tg en item
    let mut fine := true
    for c in cs do if fine then fine ← isTrue c en (eval c en)
    if fine then inner ag else ag
/-- a further clause -/
def clauseSem (ex : Expr) (d : Nat) (src : Expr) (acc : Value) (en : Env) (ag : Sem Fin) : Sem Fin := do
  let y ← eval src en
  standAt src.pos
  let y ← foldedSetIterable src en y
  let _ ← runOwn (.compStart ex d (← holding [y] (pyIter y)) acc en) en
  ag
/-- an entry -/
def putSem (ke ve : Expr) (D : Addr) (en : Env) : Sem Unit := do
  let a ← eval ke en
  let b ← holding [a] (eval ve en)
  standAt { ke.pos with endLine := ve.pos.endLine, endCol := ve.pos.endCol }
  holding [a, b] (dictSet D a b)
def putThen (ke ve : Expr) (D : Addr) (en : Env) (ag : Sem Fin) : Sem Fin := do
  putSem ke ve D en
  ag
/-- a clause begun -/
def startSem (ex : Expr) (d : Nat) (p : Pos) (src acc : Value) (en : Env) : Sem Fin := do
  if (← ask).params.followText "comprehension-iter-twice" then return ← again (.compLoop ex d src acc en)
  rule "comprehension.iter-twice"
  standAt p
  again (.compLoop ex d (← pyIter src) acc en)
section
variable {ke ve t0 i0 t1 i1 t2 i2 : Expr} {f0 f1 f2 : List Expr} {sc : Scope} {pos : Pos} {src acc : Value} {D : Addr} {en : Env}
theorem turn_10 : compTurn (.DictComp ke ve [⟨t0, i0, f0, 0⟩] sc pos) 0 src (.ref D) en = turnSem t0 i0.pos f0 src en (putThen ke ve D en) (again (.compLoop (.DictComp ke ve [⟨t0, i0, f0, 0⟩] sc pos) 0 src (.ref D) en)) := by rfl
theorem turn_30 : compTurn (.DictComp ke ve [⟨t0, i0, f0, 0⟩, ⟨t1, i1, f1, 0⟩, ⟨t2, i2, f2, 0⟩] sc pos) 0 src (.ref D) en = turnSem t0 i0.pos f0 src en (clauseSem (.DictComp ke ve [⟨t0, i0, f0, 0⟩, ⟨t1, i1, f1, 0⟩, ⟨t2, i2, f2, 0⟩] sc pos) 1 i1 (.ref D) en) (again (.compLoop (.DictComp ke ve [⟨t0, i0, f0, 0⟩, ⟨t1, i1, f1, 0⟩, ⟨t2, i2, f2, 0⟩] sc pos) 0 src (.ref D) en)) := by rfl
theorem turn_31 : compTurn (.DictComp ke ve [⟨t0, i0, f0, 0⟩, ⟨t1, i1, f1, 0⟩, ⟨t2, i2, f2, 0⟩] sc pos) 1 src (.ref D) en = turnSem t1 i1.pos f1 src en (clauseSem (.DictComp ke ve [⟨t0, i0, f0, 0⟩, ⟨t1, i1, f1, 0⟩, ⟨t2, i2, f2, 0⟩] sc pos) 2 i2 (.ref D) en) (again (.compLoop (.DictComp ke ve [⟨t0, i0, f0, 0⟩, ⟨t1, i1, f1, 0⟩, ⟨t2, i2, f2, 0⟩] sc pos) 1 src (.ref D) en)) := by rfl
theorem turn_32 : compTurn (.DictComp ke ve [⟨t0, i0, f0, 0⟩, ⟨t1, i1, f1, 0⟩, ⟨t2, i2, f2, 0⟩] sc pos) 2 src (.ref D) en = turnSem t2 i2.pos f2 src en (putThen ke ve D en) (again (.compLoop (.DictComp ke ve [⟨t0, i0, f0, 0⟩, ⟨t1, i1, f1, 0⟩, ⟨t2, i2, f2, 0⟩] sc pos) 2 src (.ref D) en)) := by rfl
theorem start_31 : compStart (.DictComp ke ve [⟨t0, i0, f0, 0⟩, ⟨t1, i1, f1, 0⟩, ⟨t2, i2, f2, 0⟩] sc pos) 1 src acc en = startSem (.DictComp ke ve [⟨t0, i0, f0, 0⟩, ⟨t1, i1, f1, 0⟩, ⟨t2, i2, f2, 0⟩] sc pos) 1 i1.pos src acc en := by rfl
theorem start_32 : compStart (.DictComp ke ve [⟨t0, i0, f0, 0⟩, ⟨t1, i1, f1, 0⟩, ⟨t2, i2, f2, 0⟩] sc pos) 2 src acc en = startSem (.DictComp ke ve [⟨t0, i0, f0, 0⟩, ⟨t1, i1, f1, 0⟩, ⟨t2, i2, f2, 0⟩] sc pos) 2 i2.pos src acc en := by rfl
end
abbrev TB := L2.St → Hp → (Hp → Prop) → Prop
/-- nothing is known of these slots -/
def Clean (L : List Nat) (σ : L2.St) : Prop := ∀ j ∈ L, ∀ v, σ[j]? ≠ some (some v)
structure PB (X : Cx) (inner : Sem Fin → Sem Fin) (L : List Nat) (t : TB) : Prop where
  run : ∀ (pl : List (Addr × Obj)) (s : Shared) (σ : L2.St) (H : Hp) (N : Hp → Prop), Inv X pl σ H s → Clean L σ → t σ H N → ∀ (k : Sem Fin) (Q : Fin → Shared → Prop) (E : Value → Shared → Prop),
    (∀ s' H', Inv X pl σ H' s' → N H' → wpAny (model X.prog X.w) X.A k Q E s') → wpAny (model X.prog X.w) X.A (inner k) Q E s
def tPut (tk tv : TE) (D : Addr) : TB := fun σ H N => tk σ H fun y H1 => tv σ H1 fun z H2 => ∃ kvs ks b, y = .ref b ∧ H2 b = some (.tup (ks.map kV)) ∧ H2 D = some (.dT kvs) ∧ kvs.length < sizeLine ∧ N (upd H2 D (.dT (putK kvs ks z)))
def tLoop (J : It) (g : TG) (tt : TT) (vs : List Nat) (tb : TB) : TB := fun σ H N => ∃ Wn : Nat → Nat → Hp → Prop, (∃ m, Wn 0 m H) ∧ ∀ i m H, Wn i m H → (J.stop i H ∧ N H) ∨ (J.go i H ∧ ∃ N1 : Hp → Prop, (∀ H', N1 H' → ∃ m', m' < m ∧ Wn (i + 1) m' H') ∧
  ∀ x H', J.yld i H x H' → g x (wipe σ vs) H' fun σ2 H2 => wipe σ2 vs = wipe σ vs ∧ tt σ2 H2 fun b H3 => if b = true then tb σ2 H3 N1 else N1 H3)
section
variable {X : Cx}
/-- an entry put into a dict whose keys are tuples -/
theorem put_tup {pl : List (Addr × Obj)} {σ : L2.St} {H : Hp} {s : Shared} {D b : Addr} {kvs : List (List Key × V)} {ks : List Key} {v : V} {r : Value} {Q : Unit → Shared → Prop} {E : Value → Shared → Prop} (hu : X.A.units < cLine) (I : Inv X pl σ H s) (eD : H D = some (.dT kvs)) (eb : H b = some (.tup (ks.map kV)))
    (hz : kvs.length < sizeLine) (rv : RelV v r) (nx : ∀ s', Inv X pl σ (upd H D (.dT (putK kvs ks v))) s' → Q () s') : wpAny (model X.prog X.w) X.A (dictSet D (.ref b) r) Q E s := by
  obtain ⟨z1, z2, zs, rl, rd⟩ := dt_of I.hok eD
  have z3 : zs.length ≤ sizeLine := by
    have := Paired.length rl
    omega
  refine wpAny_dictSet_heap (hsz := z3) hu (key_of I.hok eb) rd fun hp2 rd2 same => nx _ ?_
  obtain ⟨o2, es2, ep2, g1, g2, g3, g4, _, g5⟩ := rd2
  have lp := length_putK kvs ks v
  have kp : ∀ c ys, H c = some (.tup ys) → upd H D (.dT (putK kvs ks v)) c = some (.tup ys) := fun c ys ec => by
    rw [upd_ne fun z => by subst z; rw [eD] at ec; cases ec]
    exact ec
  exact d_write I (by rw [eD]; trivial) same ⟨o2, g1⟩ ⟨by omega, z2, _, (rl.put ks eb rv).keeps kp, o2, es2, ep2, g1, g2, g3, g4, g5⟩
theorem pb_put {ke ve : Expr} {tk tv : TE} {D : Addr} (hx : ∀ v s, X.xe v s → False) (hu : X.A.units < cLine) (pk : PE X ke tk) (pv : PE X ve tv) : PB X (putThen ke ve D X.env) [] (tPut tk tv D) := by
  refine ⟨fun pl s σ H N I _ h k Q E hk => ?_⟩
  unfold putThen putSem
  refine wpAny_bind (wpAny_bind (wpAny_mono (pk.run pl s σ H _ I h) (fun a s1 ⟨y, H1, I1, r1, q1⟩ => wpAny_bind (wpAny_holding (wpAny_mono (pv.run pl s1 σ H1 _ I1 q1) (fun b s2 ⟨z, H2, I2, r2, q2⟩ => ?_) fun _ _ z => (hx _ _ z).elim))) fun _ _ z => (hx _ _ z).elim))
  obtain ⟨kvs, ks, bb, rfl, e1, e2, e3, nx⟩ := q2
  cases (show a = Value.ref bb from r1)
  exact wpAny_bind (wpAny_standAt (wpAny_holding (put_tup hu I2 e2 e1 e3 r2 fun s3 I3 => hk s3 _ I3 nx)))
theorem clean_of {L vs : List Nat} {σ σ4 : L2.St} (dj : ∀ i ∈ L, i ∉ vs) (c : Clean L σ) (hw : wipe σ4 vs = wipe σ vs) : Clean L σ4 := fun j hj v e => by
  have h1 := (wipe_get (σ := σ4) (l := vs) (i := j)).1 (dj j hj)
  have h2 := (wipe_get (σ := σ) (l := vs) (i := j)).1 (dj j hj)
  rw [hw, h2] at h1
  exact c j hj v (h1.trans e)
variable {ke ve tg : Expr} {gens : List Comprehension} {sc : Scope} {pos p : Pos} {d : Nat} {D : Addr} {cs : List Expr} {inner : Sem Fin → Sem Fin} {g : TG} {tt : TT} {tb : TB} {vs L : List Nat}
theorem loop_ok {J : It} {fp : List Addr} {tn : Nat → Heap → Prop} {it : Addr} (hx : ∀ v s, X.xe v s → False) (hc : X.calm = true)
    (turn : ∀ v, compTurn (.DictComp ke ve gens sc pos) d v (.ref D) X.env = turnSem tg p cs v X.env inner (again (.compLoop (.DictComp ke ve gens sc pos) d v (.ref D) X.env)))
    (pg : PG X tg g) (pt : PTs X cs tt) (pb : PB X inner L tb) (dj : ∀ i ∈ L, i ∉ vs) (T : Turn X.prog X.w X.K tg J fp it tn) {pl : List (Addr × Obj)} {σ : L2.St} {s : Shared} {H : Hp} {N : Hp → Prop} {R : Result → Shared → Prop} (I : Inv X pl (wipe σ vs) H s) (cl : Clean L σ)
    (st : tn 0 s.heap) (nf : ∀ b ∈ fp, H b = none) (sf : ∀ b ∈ fp, ∀ H', H' b = none → FpOk X pl H' b) (h : tLoop J g tt vs tb σ H N) (hR : ∀ s' H', Inv X pl (wipe σ vs) H' s' → N H' → R (.ok .next) s') :
    codeAny (model X.prog X.w) X.A (.compLoop (.DictComp ke ve gens sc pos) d (.ref it) (.ref D) X.env) R s := by
  obtain ⟨Wn, ⟨m0, w0⟩, stp⟩ := h
  refine codeAny_loop rfl (fun n s' => ∃ i H', Inv X pl (wipe σ vs) H' s' ∧ tn i s'.heap ∧ (∀ b ∈ fp, H' b = none) ∧ Wn i n H') (fun n s1 hI => ?_) m0 ⟨0, H, I, st, nf, w0⟩
  show wpAny _ X.A ((compTurn (.DictComp ke ve gens sc pos) d (.ref it) (.ref D) X.env).onRaise (fun x => do noteFrame x X.env; theTreesLotGoes x)) _ _ s1
  refine wpAny_noted ?_
  rw [turn]
  unfold turnSem
  obtain ⟨i, H1, I1, st1, nf1, w1⟩ := hI
  rcases stp i n H1 w1 with ⟨stop, nx⟩ | ⟨go, N1, hN, step⟩
  · refine wpAny_bind (wpAny_standAt (wpAny_bind (wpAny_mono (T.done X rfl rfl rfl hc i pl s1 _ H1 (fun _ _ => False) I1 (fun b hb => sf b hb _ (nf1 b hb)) st1 stop) (fun r s2 ⟨hr, I2⟩ => ?_) fun _ _ z => z.elim)))
    subst hr
    exact wpAny_pure (hR _ _ I2 nx)
  · refine wpAny_bind (wpAny_standAt (wpAny_bind (wpAny_mono (T.item X rfl rfl rfl hc i pl s1 _ H1 (fun _ _ => False) I1 (fun b hb => sf b hb _ (nf1 b hb)) st1 go) (fun r s2 ⟨u, hr, h2⟩ => ?_) fun _ _ z => z.elim)))
    subst hr
    refine wpAny_bind (wpAny_mono h2 (fun _ s3 ⟨x, H3, I3, rx, y3, st3, nf3⟩ => ?_) fun _ _ z => z.elim)
    have I3' := I3.pinned (fun b hb => sf b hb _ (nf3 b hb)) (T.obj _ _ st3)
    refine wpAny_bind (wpAny_mono (pg.run _ s3 _ H3 x u _ I3' rx (step x H3 y3)) (fun _ s4 ⟨σ4, H4, I4, hw, q4⟩ => ?_) fun _ _ z => (hx _ _ z).elim)
    refine wpAny_bind (wpAny_mono (pt.run _ s4 σ4 H4 _ I4 q4) (fun b s5 ⟨H5, I5, q5⟩ => ?_) fun _ _ z => (hx _ _ z).elim)
    have fin : ∀ s' H', Inv X (pl ++ pinsAt fp s3.heap) σ4 H' s' → N1 H' → ∃ m, m < n ∧ ∃ i H', Inv X pl (wipe σ vs) H' s' ∧ tn i s'.heap ∧ (∀ b ∈ fp, H' b = none) ∧ Wn i m H' := fun s' H' I' nx => by
      obtain ⟨m', hm, w'⟩ := hN H' nx
      have stay : ∀ b ∈ fp, ∀ o, s3.heap.get? b = some o → s'.heap.get? b = some o ∧ H' b = none := fun b hb o e => by
        have := I'.pin (b, o) (List.mem_append_right _ (List.mem_append_right _ (mem_pinsAt hb e)))
        exact ⟨this.1, this.2.1⟩
      refine ⟨m', hm, i + 1, H', I'.unpinned.weak (by rw [← hw, wipe_length]) (fun j v e => ?_), T.keep _ _ _ st3 fun b hb o e => (stay b hb o e).1, fun b hb => ?_, w'⟩
      · rw [← hw] at e
        exact (wipe_some e).1
      · obtain ⟨o, e, _⟩ := T.obj _ _ st3 b hb
        exact (stay b hb o e).2
    cases b with
    | false =>
      rw [if_neg Bool.false_ne_true] at q5 ⊢
      exact wpAny_pure ⟨rfl, fin s5 H5 I5 q5⟩
    | true =>
      rw [if_pos rfl] at q5 ⊢
      exact pb.run _ s5 σ4 H5 N1 I5 (clean_of dj cl hw) q5 _ _ _ fun s6 H6 I6 nx => wpAny_pure ⟨rfl, fin s6 H6 I6 nx⟩
theorem start_ok {src : Addr} {R : Result → Shared → Prop} {s : Shared} (start : ∀ v, compStart (.DictComp ke ve gens sc pos) d v (.ref D) X.env = startSem (.DictComp ke ve gens sc pos) d p v (.ref D) X.env)
    (h : codeAny (model X.prog X.w) X.A (.compLoop (.DictComp ke ve gens sc pos) d (.ref src) (.ref D) X.env) R s) (hi : ∀ (Q : Value → Shared → Prop) (E : Value → Shared → Prop), Q (.ref src) s → wpAny (model X.prog X.w) X.A (pyIter (.ref src)) Q E s) :
    codeAny (model X.prog X.w) X.A (.compStart (.DictComp ke ve gens sc pos) d (.ref src) (.ref D) X.env) R s := by
  refine codeAny_of_tree ?_
  show wpAny _ _ ((compStart (.DictComp ke ve gens sc pos) d (.ref src) (.ref D) X.env).onRaise (fun x => do noteFrame x X.env; standAt theWindowsPlace)) _ _ s
  refine wpAny_notedAt ?_
  rw [start]
  unfold startSem
  refine wpAny_bind (wpAny_askSetting (wpAny_ite ?_))
  split
  · first | exact wpAny_bind (wpAny_pure (wpAny_pure ⟨rfl, h⟩)) | exact wpAny_pure ⟨rfl, h⟩
  · exact wpAny_bind (wpAny_rule (wpAny_bind (wpAny_standAt (wpAny_bind (hi _ _ (wpAny_pure ⟨rfl, h⟩))))))
def tClause (wi : TI) (g : TG) (tt : TT) (vs : List Nat) (tb : TB) : TB := fun σ H N => wi σ H fun J H1 => tLoop J g tt vs tb σ H1 N
theorem pb_clause {src : Expr} {wi : TI} (hx : ∀ v s, X.xe v s → False) (hc : X.calm = true)
    (turn : ∀ v, compTurn (.DictComp ke ve gens sc pos) d v (.ref D) X.env = turnSem tg p cs v X.env inner (again (.compLoop (.DictComp ke ve gens sc pos) d v (.ref D) X.env)))
    (start : ∀ v, compStart (.DictComp ke ve gens sc pos) d v (.ref D) X.env = startSem (.DictComp ke ve gens sc pos) d p v (.ref D) X.env) (hs : ∀ y, foldedSetIterable src X.env y = pure y) (hi : PI X tg src wi) (pg : PG X tg g) (pt : PTs X cs tt) (pb : PB X inner L tb) (dj : ∀ i ∈ L, i ∉ vs) :
    PB X (clauseSem (.DictComp ke ve gens sc pos) d src (.ref D) X.env) (vs ++ L) (tClause wi g tt vs tb) := by
  refine ⟨fun pl s σ H N I cl h k Q E hk => ?_⟩
  unfold clauseSem
  refine wpAny_bind (wpAny_mono (hi.run pl s σ H _ I h) (fun y s1 h1 => ?_) fun _ _ z => (hx _ _ z).elim)
  refine wpAny_bind (wpAny_standAt (wpAny_bind (wpAny_of_eq (hs y) (wpAny_bind (wpAny_holding (wpAny_mono h1 (fun itv s2 h2 => ?_) fun _ _ z => (hx _ _ z).elim))))))
  obtain ⟨it, fp, tn, J, H2, rfl, I2, T, st2, f2, q⟩ := h2
  refine wpAny_bind (wpAny_runOwn ?_)
  rw [Around.mark_none]
  have lp := loop_ok (R := fun r s' => match r with
    | .ok _ => ∃ H', Inv X pl (wipe σ vs) H' s' ∧ N H'
    | .error _ => False) hx hc turn pg pt pb dj T (I2.weak (wipe_length _ _) (fun j v e => (wipe_some e).1)) (fun j hj => cl j (List.mem_append_right _ hj)) st2 (fun b hb => (f2 b hb).1) (fun b hb H' e => ⟨e, (f2 b hb).2⟩) q (fun s' H' I' nx => ⟨H', I', nx⟩)
  refine codeAny_mono (start_ok start lp fun Q E hq => T.self X.A 0 _ _ _ st2 hq) fun r s3 hr => ?_
  cases r with
  | error z => exact hr.elim
  | ok f =>
    obtain ⟨H3, I3, nx⟩ := hr
    refine hk s3 H3 (I3.weak (wipe_length _ _).symm fun j v e => ?_) nx
    have hj : j ∉ vs := fun z => cl j (List.mem_append_left _ z) v e
    rw [(wipe_get (σ := σ) (l := vs) (i := j)).1 hj]
    exact e
end
def tDcF (wi : TI) (g : TG) (tt : TT) (tb : Addr → TB) (vs ow : List Nat) : TE := fun σ H Q => wi σ H fun J H1 => ∀ D, H1 D = none → tLoop J g tt vs (tb D) (wipe σ ow) (upd H1 D (.dT [])) fun H' => ∃ kvs, H' D = some (.dT kvs) ∧ ∀ ob, Q (.ref D) (upd H' D (.frz ob (.dT kvs)))
section
variable {X : Cx} {ke ve tg iter : Expr} {rest : List Comprehension} {scope : Scope} {own : List (Str × Nat)} {pos : Pos} {cs : List Expr} {inner : Addr → Env → Sem Fin → Sem Fin} {wi : TI} {g : TG} {tt : TT} {tb : Addr → TB} {vs L : List Nat}
theorem pe_dcF (hc : X.calm = true) (hN : X.N.Nodup) (hi : PI X tg iter wi) (ok : BlkOk X.N X.env.scope scope own)
    (turn : ∀ D en v, compTurn (.DictComp ke ve (⟨tg, iter, cs, 0⟩ :: rest) scope pos) 0 v (.ref D) en = turnSem tg iter.pos cs v en (inner D en) (again (.compLoop (.DictComp ke ve (⟨tg, iter, cs, 0⟩ :: rest) scope pos) 0 v (.ref D) en)))
    (hg : ∀ (s : Shared) (H : Hp) (C : Addr) (cl : List (Str × Addr)) (fp : List Addr), PG (X.blk s H scope (compEnvC scope cl C X.env) fp) tg g)
    (ht : ∀ (s : Shared) (H : Hp) (C : Addr) (cl : List (Str × Addr)) (fp : List Addr), PTs (X.blk s H scope (compEnvC scope cl C X.env) fp) cs tt)
    (hb : ∀ (s : Shared) (H : Hp) (C : Addr) (cl : List (Str × Addr)) (fp : List Addr) (D : Addr), PB (X.blk s H scope (compEnvC scope cl C X.env) fp) (inner D (compEnvC scope cl C X.env)) L (tb D))
    (dj : ∀ i ∈ L, i ∉ vs) (hL : ∀ i ∈ L, i ∈ own.map (·.2)) (hs : ∀ x, foldedSetIterable iter X.env x = pure x) :
    PE X (.DictComp ke ve (⟨tg, iter, cs, 0⟩ :: rest) scope pos) (tDcF wi g tt tb vs (own.map (·.2))) := by
  refine ⟨fun pl s σ H Q I h => ?_⟩
  rw [arm_eval_DictComp]
  have fr : ∀ y ∈ scope.names, y.2 = .free → ∃ c, X.env.cells.lookup y.1 = some c := fun y hy e => (ok.free y hy e).elim (fun k => I.ok.has _ (.inl k)) fun k => I.ok.has _ (.inr k)
  refine wpAny_comprehension_free (use := none) rfl hs (closure_ok fr) ok.kind (fun y hy e => by rw [ok.uniq y hy, e]) (thn (hi.run pl s σ H _ I h) fun xv s1 h1 => thn h1 fun itv s2 h2 => ?_)
  obtain ⟨it, fp, tn, J, H2, rfl, I2, T, st2, f2, q⟩ := h2
  refine wpAny_newObj_type (newEnv_comp ?_)
  have hDn : H2 s2.heap.objs.size = none := I2.hok.fresh (Nat.le_refl _)
  have q := q _ hDn
  have I3 : Inv X pl σ (upd H2 s2.heap.objs.size (.dT [])) { s2 with heap := s2.heap.push { cls := .type "dict", data := .dict #[] } } :=
    I2.laid (t' := s2.toks) (fun b o e => Heap.get?_push_of_some _ e) (Nat.le_refl _) (dt_empty s2.heap I2.big)
  have h3 : ({ s2 with heap := s2.heap.push { cls := .type "dict", data := .dict #[] } } : Shared).heap = s2.heap.push { cls := .type "dict", data := .dict #[] } := rfl
  generalize ({ s2 with heap := s2.heap.push { cls := .type "dict", data := .dict #[] } } : Shared) = s3 at I3 h3 ⊢
  generalize hD : s2.heap.objs.size = D at hDn q I3 ⊢
  have lt2 : ∀ b ∈ fp, b < s2.heap.objs.size := fun b hb => by
    obtain ⟨o, e, _⟩ := T.obj _ _ st2 b hb
    exact Heap.lt_size e
  generalize hH3 : upd H2 D (.dT []) = H3 at I3 q
  have f3 : ∀ b ∈ fp, FpOk X pl H3 b ∧ b < s3.heap.objs.size := fun b hb => by
    have ne : b ≠ D := by rw [← hD]; exact Nat.ne_of_lt (lt2 b hb)
    refine ⟨⟨by rw [← hH3, upd_ne ne]; exact (f2 b hb).1, (f2 b hb).2⟩, ?_⟩
    rw [h3, Heap.size_push]
    exact Nat.lt_succ_of_lt (lt2 b hb)
  have st3 : tn 0 s3.heap := T.keep _ _ _ st2 fun b _ o e => by rw [h3]; exact Heap.get?_push_of_some _ e
  have I4 := block_start I3 ok hN f3
  have pg := hg s3 H3 s3.heap.objs.size (cellsFrom (s3.heap.objs.size + 1) scope.names (cloFrom X.env.cells scope.names [])) fp
  have pt := ht s3 H3 s3.heap.objs.size (cellsFrom (s3.heap.objs.size + 1) scope.names (cloFrom X.env.cells scope.names [])) fp
  have pb := hb s3 H3 s3.heap.objs.size (cellsFrom (s3.heap.objs.size + 1) scope.names (cloFrom X.env.cells scope.names [])) fp D
  have turn' := turn D (compEnvC scope (cellsFrom (s3.heap.objs.size + 1) scope.names (cloFrom X.env.cells scope.names [])) s3.heap.objs.size X.env)
  show codeAny _ _ (.compStart (.DictComp ke ve (⟨tg, iter, cs, 0⟩ :: rest) scope pos) 0 (.ref it) (.ref D) (compEnvC scope (cellsFrom (s3.heap.objs.size + 1) scope.names (cloFrom X.env.cells scope.names [])) s3.heap.objs.size X.env)) (compPost (model X.prog X.w) X.A X.xe none (EP X pl σ Q) (.ref D) s3.heap.objs.size) { s3 with heap := pushCells (s3.heap.push { cls := .type "dict", data := .dict #[] }) scope.names }
  generalize hce : compEnvC scope (cellsFrom (s3.heap.objs.size + 1) scope.names (cloFrom X.env.cells scope.names [])) s3.heap.objs.size X.env = ce at I4 pg pt pb turn' ⊢
  have cL : ce.locals = s3.heap.objs.size := by subst hce; rfl
  have st4 : tn 0 ({ s3 with heap := pushCells (s3.heap.push { cls := .type "dict", data := .dict #[] }) scope.names } : Shared).heap := T.keep _ _ _ st3 fun b _ o e => pushCells_keeps _ _ _ _ (Heap.get?_push_of_some _ e)
  generalize ({ s3 with heap := pushCells (s3.heap.push { cls := .type "dict", data := .dict #[] }) scope.names } : Shared) = s4 at I4 st4 ⊢
  have sf : ∀ b ∈ fp, ∀ H', H' b = none → FpOk (X.blk s3 H3 scope ce fp) [] H' b := fun b hb H' e =>
    ⟨e, (I4.ok.exf b hb).1, I4.ok.exfs b hb, .inl hb, fun x c z => (I4.ok.exf b hb).2 x c z, fun p hp => absurd (show p ∈ ([] : List (Addr × Obj)) ++ [] from hp) (by simp)⟩
  have cw : Clean L (wipe σ (own.map (·.2))) := fun j hj v e => by
    have := (wipe_some e).2
    exact this (hL j hj)
  have lp := loop_ok (X := X.blk s3 H3 scope ce fp) (R := compPost (model X.prog X.w) X.A X.xe none (EP X pl σ Q) (.ref D) s3.heap.objs.size) (fun _ _ z => z) hc turn' pg pt pb dj T (I4.weak (wipe_length _ _) (fun j v e => (wipe_some e).1)) cw st4 (fun b hb => (f3 b hb).1.1) sf q
    (fun s6 H6 I6 ⟨kvs, hk, qq⟩ => by
      have I7 : Inv X pl σ H6 s6 := I3.call' (ch := fp) I6.os I6.base I6.hok I6.bare fun b hb => ⟨(f3 b hb).1.2.2.2.1, (f3 b hb).1.2.1, (f3 b hb).1.2.2.2.2.1, (f3 b hb).1.2.2.2.2.2⟩
      have nC : H6 s3.heap.objs.size = none := by
        rw [← cL]
        exact I6.free
      obtain ⟨m, hn, _⟩ := I6.loc
      have hn : s6.heap.Ns ce.locals m := hn
      rw [cL] at hn
      refine ⟨m, hn, fun h'' sb => ?_⟩
      obtain ⟨k0, k1, k2, k3, k4, k5⟩ := I3.fpOk (H' := H6) (Nat.le_refl _) nC
      have I8 : Inv X pl σ H6 { s6 with heap := h'' } := I7.turned (t' := s6.toks) (fun b o hb e => (sb.2 b hb).trans e) k0 k1 k3 k4 k5
      obtain ⟨ob, I9⟩ := I8.lock hk trivial
      exact ⟨.ref D, _, I9, rfl, qq ob⟩)
  exact codeAny_compStart_dict lp (T.self X.A 0 _ _ _ st4 lp)
end
end Z

set_option Elab.async false
set_option linter.all false
set_option maxRecDepth 100000
/-! Z31: mirrors of dict comprehensions. -/
namespace Z
open PySem PySem.Spec PyProof.Rows L2
abbrev KVs := List (List Key × W)
abbrev MB := KVs → S → Option (KVs × S)
noncomputable def clL (vs : List Nat) (t : W → Mo Unit) (tt : Mo Bool) (body : MB) (k : Wk) : List W → MB
  | [], acc => fun s => if k.ok s then some (acc, s) else none
  | w :: ws, acc => fun s => if k.ok s then (match (bnd (t w) fun _ => tt) s with
    | some (.ok true, s1) => match body acc s1 with
      | some (acc', s2) => clL vs t tt body k ws acc' (wipeS vs s2)
      | none => none
    | some (.ok false, s1) => clL vs t tt body k ws acc (wipeS vs s1)
    | _ => none) else none
noncomputable def putD (mk mv : Mo RV) : MB := fun acc s => match (bnd mk fun x => freeze (settle x)) s with
  | some (.ok kw, s1) => match (bnd mv fun x => freeze (settle x)) s1 with
    | some (.ok vw, s2) => match tkOf kw with
      | some ks => if acc.length < sz then some (putW acc ks vw, s2) else none
      | none => none
    | _ => none
  | _ => none
noncomputable def clM (vs : List Nat) (mi : Mo Wk) (t : W → Mo Unit) (tt : Mo Bool) (body : MB) : MB := fun acc s => match mi s with
  | some (.ok k, s1) => clL vs t tt body k k.ws acc (wipeS vs s1)
  | _ => none
noncomputable def mDcF (ow vs : List Nat) (mi : Mo Wk) (t : W → Mo Unit) (tt : Mo Bool) (body : MB) : Mo RV := bnd mi fun k => fun s => match clL vs t tt body k k.ws [] (wipeS ow s) with
  | some (kvs, s') => some (.ok (.val (.dF kvs)), wipeS ow s')
  | none => none
section
variable {K : PySem.W.Frag} {mg : Str → Option Value} {ea : EA} {io io' : List Addr} {Fr Fr' : Addr → Prop} {s s' s2 : S} {σ σ' : L2.St} {H H' : Hp} {w : W} {v : V} {c : Cell} {o : HO} {a p : Addr} {ws : List W} {vs : List V} {M : Addr → Prop} {Wx : WX}
def RefB (K : PySem.W.Frag) (mg : Str → Option Value) (ea : EA) (tb : Addr → TB) (body : MB) : Prop := ∀ (D : Addr) (σ : L2.St) (H : Hp) (io : List Addr) (Fr : Addr → Prop) (s : S) (acc : KVs) (av : List (List Key × V)), ¬ Fr D → Sim K mg ea io (pls Fr D) s σ H → H D = some (.dT av) → Rkv K mg io (Ms io (pls Fr D) s σ) H acc av →
  ∀ acc' s', body acc s = some (acc', s') → ∀ N : Hp → Prop, (∀ H' io' av', Sim K mg ea io' (pls Fr D) s' σ H' → Stp io (Ms io (pls Fr D) s σ) Fr H io' (Ms io' (pls Fr D) s' σ) H' → H' D = some (.dT av') → Rkv K mg io' (Ms io' (pls Fr D) s' σ) H' acc' av' → N H') → tb D σ H N
theorem Stp.updD {D : Addr} {M M' : Addr → Prop} {o' : HO} (T : Stp io M Fr H io' M' H') (hM : M D) (hF : ¬ Fr D) : Stp io M Fr H io' M' (upd H' D o') where
  p := ⟨fun b u e h => by rw [upd_ne (fun z => by subst z; exact h hM)]; exact T.p.keep b u e h, T.p.new, T.p.ext⟩
  fr := fun b z => by rw [upd_ne (fun e => by subst e; exact hF z)]; exact T.fr b z
  trk := fun b u e => by
    by_cases h : b = D
    · exact ⟨o', by rw [h, upd_same]⟩
    · rw [upd_ne h]; exact T.trk b u e
theorem ref_put {tk tv : TE} {mk mv : Mo RV} (hk : RefE K mg ea W0 tk mk) (hv : RefE K mg ea W0 tv mv) : RefB K mg ea (tPut tk tv) (putD mk mv) := by
  intro D σ H io Fr s acc av nD S0 hD R0 acc' s' e N hN
  unfold putD at e
  cases e1 : (bnd mk fun x => freeze (settle x)) s with
  | none => rw [e1] at e; cases e
  | some pr =>
    obtain ⟨rk, s1⟩ := pr
    rw [e1] at e
    cases rk with
    | error z => cases e
    | ok kw =>
      simp only at e
      cases e2 : (bnd mv fun x => freeze (settle x)) s1 with
      | none => rw [e2] at e; cases e
      | some pr2 =>
        obtain ⟨rv, s3⟩ := pr2
        rw [e2] at e
        cases rv with
        | error z => cases e
        | ok vw =>
          simp only at e
          cases e3 : tkOf kw with
          | none => rw [e3] at e; cases e
          | some ks =>
            rw [e3] at e
            simp only at e
            split at e
            · rename_i hz
              cases e
              refine one2 hk S0 e1 (fun x q => by cases q) fun x vx s4 H1 io1 e4 px => ?_
              obtain ⟨S1, T1, R1⟩ := px.settled
              obtain ⟨_, l1, S1, w', q, R1⟩ := freeze_ok S1 R1 e4
              cases q
              have T1 := T1.less l1
              refine one2 hv S1 e2 (fun x q => by cases q) fun x2 vx2 s5 H2 io2 e5 px2 => ?_
              obtain ⟨S2, T2, R2⟩ := px2.settled
              obtain ⟨_, l2, S2, w', q, R2⟩ := freeze_ok S2 R2 e5
              cases q
              have T2 := T2.less l2
              have Rk := R1.pers T2.p
              obtain ⟨w1, ws1, rfl, e6⟩ := tk_inv e3
              obtain ⟨b, us, rfl, hb, r6⟩ := (Rn.of Rk).tup1
              have hD2 : H2 D = some (.dT av) := by rw [T2.fr D (.inr rfl), T1.fr D (.inr rfl)]; exact hD
              have RA := (R0.pers T1.p).pers T2.p
              refine ⟨av, ks, b, rfl, by rw [hb, r6.keys e6], hD2, by rw [sz_eq, ← RA.length]; exact hz, ?_⟩
              have S3 := S2.updFr (o' := .dT (putK av ks vx2)) (.inr rfl) hD2
              have MD : Ms io (pls Fr D) s σ D := .inr (.inl (.inr rfl))
              have MD2 : Ms io2 (pls Fr D) s' σ D := .inr (.inl (.inr rfl))
              have T3 : Stp io (Ms io (pls Fr D) s σ) Fr H io2 (Ms io2 (pls Fr D) s' σ) (upd H2 D (.dT (putK av ks vx2))) := ((T1.trans T2).frless pls.sub).updD MD nD
              have PD : Pers io2 (Ms io2 (pls Fr D) s' σ) H2 io2 (Ms io2 (pls Fr D) s' σ) (upd H2 D (.dT (putK av ks vx2))) := (stp_upd MD2).p
              exact hN _ io2 _ S3 T3 upd_same ((RA.put R2).pers PD)
            · cases e
theorem ref_loop {g : TG} {tt : TT} {tb : Addr → TB} {t : W → Mo Unit} {mt : Mo Bool} {body : MB} {l vs L : List Nat} (hg : RefG K mg ea g t l) (hl : ∀ i ∈ l, i ∈ vs) (ht : RefT K mg ea W0 tt mt) (hb : RefB K mg ea tb body) {J : It} {kw : Wk} {io0 : List Addr} {M0 : Addr → Prop} {H0 : Hp} (G : ItG K mg J kw io0 M0 H0)
    {D : Addr} {acc acc' : KVs} {av : List (List Key × V)} (nD : ¬ Fr D) (S0 : Sim K mg ea io (pls Fr D) s (wipe σ vs) H) (T0 : Stp io0 M0 (fun _ => False) H0 io (Ms io (pls Fr D) s (wipe σ vs)) H) (hD : H D = some (.dT av)) (R0 : Rkv K mg io (Ms io (pls Fr D) s (wipe σ vs)) H acc av) (w0 : ∀ j, j ∈ vs → s.r[j]? = some .non ∨ s.r[j]? = none)
    (e : clL vs t mt body kw kw.ws acc s = some (acc', s')) {N : Hp → Prop} (hN : ∀ H' io' av', Sim K mg ea io' (pls Fr D) s' (wipe σ vs) H' → Stp io (Ms io (pls Fr D) s (wipe σ vs)) Fr H io' (Ms io' (pls Fr D) s' (wipe σ vs)) H' → H' D = some (.dT av') → Rkv K mg io' (Ms io' (pls Fr D) s' (wipe σ vs)) H' acc' av' → (∀ j, j ∈ vs → s'.r[j]? = some .non ∨ s'.r[j]? = none) → N H') : tLoop J g tt vs (tb D) σ H N := by
  have nF : ∀ {b}, (fun _ : Addr => False) b → Fr b := fun z => z.elim
  refine ⟨fun i m H2 => m = kw.ws.length - i ∧ i ≤ kw.ws.length ∧ ∃ io2 s2 acc2 av2, Sim K mg ea io2 (pls Fr D) s2 (wipe σ vs) H2 ∧ Stp io (Ms io (pls Fr D) s (wipe σ vs)) Fr H io2 (Ms io2 (pls Fr D) s2 (wipe σ vs)) H2 ∧
    H2 D = some (.dT av2) ∧ Rkv K mg io2 (Ms io2 (pls Fr D) s2 (wipe σ vs)) H2 acc2 av2 ∧ (∀ j, j ∈ vs → s2.r[j]? = some .non ∨ s2.r[j]? = none) ∧ clL vs t mt body kw (kw.ws.drop i) acc2 s2 = some (acc', s'),
    ⟨kw.ws.length, by simp, Nat.zero_le _, io, s, acc, av, S0, .refl, hD, R0, w0, by simpa using e⟩, ?_⟩
  rintro i m H2 ⟨rfl, hle, io2, s2, acc2, av2, S2, T2, hA, RA, wn, e3⟩
  have ck : kw.ok s2 := by
    cases hd : kw.ws.drop i with
    | nil => rw [hd] at e3; unfold clL at e3; split at e3; assumption; cases e3
    | cons w ws => rw [hd] at e3; unfold clL at e3; split at e3; assumption; cases e3
  have cn := cn_of S2 ck
  have T02 := T0.trans (T2.frless fun b z => z.elim)
  by_cases hlt : i < kw.ws.length
  · refine .inr ⟨G.go _ _ _ T02.p cn i hlt, fun H3 => ∃ io3 s3 acc3 av3, Sim K mg ea io3 (pls Fr D) s3 (wipe σ vs) H3 ∧ Stp io (Ms io (pls Fr D) s (wipe σ vs)) Fr H io3 (Ms io3 (pls Fr D) s3 (wipe σ vs)) H3 ∧
      H3 D = some (.dT av3) ∧ Rkv K mg io3 (Ms io3 (pls Fr D) s3 (wipe σ vs)) H3 acc3 av3 ∧ (∀ j, j ∈ vs → s3.r[j]? = some .non ∨ s3.r[j]? = none) ∧ clL vs t mt body kw (kw.ws.drop (i + 1)) acc3 s3 = some (acc', s'),
      fun H3 ⟨io3, s3, acc3, av3, a1, a2, a3, a4, a5, a6⟩ => ⟨kw.ws.length - (i + 1), by omega, rfl, hlt, io3, s3, acc3, av3, a1, a2, a3, a4, a5, a6⟩, fun x H3 y => ?_⟩
    rw [drop_get hlt] at e3
    have item : ∃ io3, Sim K mg ea io3 (pls Fr D) s2 (wipe σ vs) H3 ∧ Stp io2 (Ms io2 (pls Fr D) s2 (wipe σ vs)) (pls Fr D) H2 io3 (Ms io3 (pls Fr D) s2 (wipe σ vs)) H3 ∧ Rw K mg io3 (Ms io3 (pls Fr D) s2 (wipe σ vs)) H3 kw.ws[i] x := by
      rcases G.yld _ _ _ T02.p cn (fun a z => S2.trkN z) i x H3 y kw.ws[i] (by simp [hlt]) with ⟨rfl, r⟩ | ⟨p, us, ws', hp, rfl, hw, rfl, r⟩
      · exact ⟨io2, S2, .refl, r⟩
      · obtain ⟨S3, T3⟩ := S2.laid (o := .tup us) hp
        have r' := r.pers T3.p
        refine ⟨io2, S3, T3, ?_⟩
        rw [hw]
        refine .tup (.inl ⟨upd_same, fun z => ?_⟩) r'.1 r'.2
        obtain ⟨u, e⟩ := S2.trk z
        rw [hp] at e; cases e
    obtain ⟨io3, S3, T3, R3⟩ := item
    have T23 := T2.trans (T3.frless pls.sub)
    have hA3 : H3 D = some (.dT av2) := (T3.fr D (.inr rfl)).trans hA
    have RA3 := RA.pers T3.p
    unfold clL at e3
    rw [if_pos ck] at e3
    cases ex : (bnd (t kw.ws[i]) fun _ => mt) s2 with
    | none => rw [ex] at e3; cases e3
    | some pr =>
      obtain ⟨rb, s4⟩ := pr
      rw [ex] at e3
      rcases bnd_some ex with ⟨z, e5, rfl⟩ | ⟨_, s5, e5, e6⟩
      · have := hg.ne _ _ _ _ e5
        cases this
      · refine hg.go (wipe σ vs) H3 io3 (pls Fr D) s2 _ x S3 R3 _ _ e5 _ fun σ5 S5 l5 n5 k5 => ?_
        have k5' : ∀ j, j ∉ vs → σ5[j]? = (wipe σ vs)[j]? := fun j hj => k5 j fun z => hj (hl j z)
        have we : wipe σ5 vs = wipe σ vs := by rw [wipe_eq n5 k5', wipe_wipe]
        refine ⟨we, ?_⟩
        have T5 : Stp io3 (Ms io3 (pls Fr D) s2 (wipe σ vs)) (pls Fr D) H3 io3 (Ms io3 (pls Fr D) s5 σ5) H3 := Stp.refl.less l5
        have back : ∀ {s6 : S} {H6 : Hp} {io6 : List Addr}, Sim K mg ea io6 (pls Fr D) s6 σ5 H6 → Sim K mg ea io6 (pls Fr D) (wipeS vs s6) (wipe σ vs) H6 ∧ (∀ b, Ms io6 (pls Fr D) (wipeS vs s6) (wipe σ vs) b → Ms io6 (pls Fr D) s6 σ5 b) := fun S6 =>
          S6.wiped (by rw [n5]) fun j hj => (k5' j hj).symm
        cases rb with
        | error z => cases e3
        | ok b =>
          refine ht σ5 H3 io3 (pls Fr D) s5 S5 _ _ e6 _ (fun b' q H6 io6 p6 => ?_) fun z q => by cases q
          cases q
          have T36 := T23.trans ((T5.trans p6.2).frless pls.sub)
          have hA6 : H6 D = some (.dT av2) := (p6.2.fr D (.inr rfl)).trans hA3
          have RA6 := (RA3.pers T5.p).pers p6.2.p
          cases b with
          | false =>
            rw [if_neg Bool.false_ne_true]
            obtain ⟨S7, l7⟩ := back p6.1
            exact ⟨io6, _, acc2, av2, S7, T36.less l7, hA6, RA6.pers (.less l7), fun j hj => (wipeR_get (r := s4.r)).2 hj, e3⟩
          | true =>
            rw [if_pos rfl]
            simp only at e3
            cases eb : body acc2 s4 with
            | none => rw [eb] at e3; cases e3
            | some pr2 =>
              obtain ⟨acc3, s7⟩ := pr2
              rw [eb] at e3
              simp only at e3
              refine hb D σ5 H6 io6 Fr s4 acc2 av2 nD p6.1 hA6 RA6 _ _ eb _ fun H8 io8 av8 S8 T8 hA8 RA8 => ?_
              obtain ⟨S9, l9⟩ := back S8
              exact ⟨io8, _, acc3, av8, S9, (T36.trans T8).less l9, hA8, RA8.pers (.less l9), fun j hj => (wipeR_get (r := s7.r)).2 hj, e3⟩
  · have hi' : i = kw.ws.length := by omega
    subst hi'
    rw [List.drop_length] at e3
    unfold clL at e3
    rw [if_pos ck] at e3
    cases e3
    exact .inl ⟨G.stop _ _ _ T02.p cn, hN _ io2 av2 S2 T2 hA RA wn⟩
theorem ref_clause {wi : TI} {g : TG} {tt : TT} {tb : Addr → TB} {mi : Mo Wk} {t : W → Mo Unit} {mt : Mo Bool} {body : MB} {l vs : List Nat} (hi : RefI K mg ea W0 wi mi) (hg : RefG K mg ea g t l) (hl : ∀ i ∈ l, i ∈ vs) (ht : RefT K mg ea W0 tt mt) (hb : RefB K mg ea tb body) : RefB K mg ea (fun D => tClause wi g tt vs (tb D)) (clM vs mi t mt body) := by
  intro D σ H io Fr s acc av nD S0 hD R0 acc' s' e N hN
  unfold clM at e
  cases e1 : mi s with
  | none => rw [e1] at e; cases e
  | some pr =>
    obtain ⟨rk, s1⟩ := pr
    rw [e1] at e
    cases rk with
    | error z => cases e
    | ok kw =>
      simp only at e
      refine hi σ H io (pls Fr D) s S0 _ _ e1 _ (fun kw' q J H1 io1 p1 G => ?_) fun z q => by cases q
      cases q
      obtain ⟨S2, l2⟩ := p1.1.wiped (l := vs) (σ' := wipe σ vs) (wipe_length σ vs) fun j hj => (wipe_get (σ := σ)).1 hj
      have hD1 : H1 D = some (.dT av) := (p1.2.fr D (.inr rfl)).trans hD
      have R1 := (R0.pers p1.2.p).pers (.less l2)
      refine ref_loop (L := []) hg hl ht hb G nD S2 (Stp.refl.less l2) hD1 R1 (fun j hj => (wipeR_get (r := s1.r)).2 hj) e fun H3 io3 av3 S3 T3 hA3 RA3 wn => ?_
      obtain ⟨S4, l4⟩ := S3.sub (r' := s'.r) (σ' := σ) (by rw [S3.len, wipe_length]) fun j => by
        by_cases hj : j ∈ vs
        · exact .inr (wn j hj)
        · exact .inl ⟨rfl, ((wipe_get (σ := σ)).1 hj).symm⟩
      exact hN H3 io3 av3 S4 (((p1.2.frless pls.sub).less l2 |>.trans T3).less l4) hA3 (RA3.pers (.less l4))
theorem ref_dcF {wi : TI} {g : TG} {tt : TT} {tb : Addr → TB} {mi : Mo Wk} {t : W → Mo Unit} {mt : Mo Bool} {body : MB} {l vs ow : List Nat} (hi : RefI K mg ea Wx wi mi) (hg : RefG K mg ea g t l) (hl : ∀ i ∈ l, i ∈ vs) (hv : ∀ i ∈ vs, i ∈ ow) (ht : RefT K mg ea W0 tt mt) (hb : RefB K mg ea tb body) : RefE K mg ea Wx (tDcF wi g tt tb vs ow) (mDcF ow vs mi t mt body) := by
  intro σ H io Fr s S0 r0 s' e Q hok hex
  rcases bnd_some e with ⟨x, e1, rfl⟩ | ⟨kw, s1, e1, e2⟩
  · exact hi σ H io Fr s S0 _ _ e1 _ (fun _ q => by cases q) fun x' q cls d H' io' px => by
      cases q
      exact hex _ rfl cls d H' io' px
  · refine hi σ H io Fr s S0 _ _ e1 _ (fun kw' q J H1 io1 px G => ?_) (fun _ q => by cases q)
    cases q
    intro D hD
    obtain ⟨SD, TD, nD⟩ := px.1.alloc (o := .dT []) hD
    have nFD : ¬ Fr D := fun z => nD (.inl z)
    obtain ⟨SW, lW⟩ := SD.wiped (l := ow) (σ' := wipe σ ow) (wipe_length σ ow) fun j hj => (wipe_get (σ := σ)).1 hj
    have ww : wipe (wipe σ ow) vs = wipe σ ow := by
      apply List.ext_getElem?
      intro j
      by_cases hj : j ∈ vs
      · rcases Nat.lt_or_ge j σ.length with q | q
        · rw [(wipe_get (σ := wipe σ ow)).2 hj (by rw [wipe_length]; exact q), (wipe_get (σ := σ)).2 (hv j hj) q]
        · rw [List.getElem?_eq_none (by rw [wipe_length, wipe_length]; exact q), List.getElem?_eq_none (by rw [wipe_length]; exact q)]
      · rw [(wipe_get (σ := wipe σ ow)).1 hj]
    cases el : clL vs t mt body kw kw.ws [] (wipeS ow s1) with
    | none => rw [el] at e2; cases e2
    | some pr =>
      obtain ⟨kvs, s3⟩ := pr
      rw [el] at e2
      simp only at e2
      cases e2
      have lW0 := lW
      rw [← ww] at SW lW
      refine ref_loop (L := []) hg hl ht hb G nFD SW ((TD.frless fun b z => z.elim).less lW) upd_same Rkv.nil (fun j hj => (wipeR_get (r := s1.r)).2 (hv j hj)) el fun H3 io3 av3 S3 T3 hA3 RA3 wn => ⟨av3, hA3, fun ob => ?_⟩
      rw [ww] at S3 T3 RA3
      -- the dict is locked, and private no more
      have hDn : ∀ b, b = D → ¬ (b ∈ io3 ∨ FrO Fr s3.r (wipe σ ow) b) := fun b hb z => by
        subst hb
        rcases z with z | z | ⟨j, c, h1, h2⟩
        · exact S3.g.dj b z (.inl (.inr rfl))
        · exact nFD z
        · obtain ⟨b', o, q1, _, _, q4⟩ := S3.own j c h1
          rw [h2] at q1
          cases q1
          exact q4 (.inr rfl)
      have S4 : Sim K mg ea io3 Fr s3 (wipe σ ow) (upd H3 D (.frz ob (.dT av3))) := by
        refine S3.change (fun b z => .inl z) (fun b o hb hM => ?_) (fun b hb => ?_) (fun b z => ?_)
        · rw [upd_ne (fun z => hM (.inr (.inl (.inr z))))]; exact hb
        · rw [upd_ne (fun z => hDn b z (hb.imp id fun z => .inr z))]
        · obtain ⟨o, ho, n⟩ := S3.g.fr b (.inl (.inl z))
          exact ⟨o, by rw [upd_ne (show b ≠ D from fun z' => nFD (by rw [← z']; exact z))]; exact ho, n⟩
      obtain ⟨S5, l5⟩ := S4.sub (r' := (wipeS ow s3).r) (σ' := σ) (by show (wipeR s3.r ow).length = σ.length; rw [wipeR_len, S4.len, wipe_length]) fun j => by
        by_cases hj : j ∈ ow
        · exact .inr ((wipeR_get (r := s3.r)).2 hj)
        · exact .inl ⟨(wipeR_get (r := s3.r)).1 hj, ((wipe_get (σ := σ)).1 hj).symm⟩
      have lD : ∀ b, Ms io3 Fr s3 (wipe σ ow) b → Ms io3 (pls Fr D) s3 (wipe σ ow) b := fun b z => Ms.mono (fun b z => .inl z) b z
      have T13 : Stp io1 (Ms io1 Fr s1 σ) Fr H1 io3 (Ms io3 (pls Fr D) s3 (wipe σ ow)) H3 := (TD.less lW0).trans T3
      have PF : Pers io3 (Ms io3 (pls Fr D) s3 (wipe σ ow)) H3 io3 (Ms io3 Fr (wipeS ow s3) σ) (upd H3 D (.frz ob (.dT av3))) :=
        ⟨fun b u e h => by rw [upd_ne (fun z => by subst z; exact h (.inr (.inl (.inr rfl))))]; exact e, fun b z => .inl (lD b (l5 b z)), fun _ _ e => e⟩
      have T5 : Stp io1 (Ms io1 Fr s1 σ) Fr H1 io3 (Ms io3 Fr (wipeS ow s3) σ) (upd H3 D (.frz ob (.dT av3))) := (T13.updNew hD nFD hA3).less fun b z => lD b (l5 b z)
      have RF := RA3.pers PF
      refine hok _ rfl (.ref D) _ io3 ⟨S5, px.2.trans T5, .dF upd_same (fun z => ?_) RF.1 RF.2.2⟩
      exact hDn D rfl (l5 D z)
end
end Z

set_option Elab.async false
set_option linter.all false
set_option maxRecDepth 100000
/-! Z32: locked dicts with tuple keys: walked, measured, listed; the rules of their comprehensions. -/
namespace Z
open PySem PySem.Spec PyProof.Rows L2
def kW : Key → W
  | .inl i => .int i
  | .inr x => .str x
def keyW (ks : List Key) : W := .tup (ks.map kW)
def mIterD (m : Mo RV) : Mo Wk := bnd m fun x => bnd (look (settle x)) fun w => match w with
  | .dF kvs => ret ⟨kvs.map fun p => keyW p.1, none⟩
  | _ => stk
section
variable {K : PySem.W.Frag} {mg : Str → Option Value} {ea : EA} {io io' : List Addr} {Fr Fr' : Addr → Prop} {s s' s2 : S} {σ σ' : L2.St} {H H' : Hp} {w : W} {v : V} {c : Cell} {o : HO} {a p : Addr} {ws : List W} {vs : List V} {M : Addr → Prop} {Wx : WX}
theorem rw_kW (k : Key) : Rw K mg io M H (kW k) (kV k) := by
  cases k with
  | inl i => exact .int i
  | inr x => exact .str x
theorem rw_keyW {ks : List Key} {q : Addr} (h : H q = some (.tup (ks.map kV))) (hn : ¬ M q) : Rw K mg io M H (keyW ks) (.ref q) := by
  refine .tup (.inl ⟨h, hn⟩) (by simp) fun i w v h1 h2 => ?_
  rw [List.getElem?_map] at h1 h2
  cases e : ks[i]? with
  | none => rw [e] at h1; cases h1
  | some k => rw [e] at h1 h2; cases h1; cases h2; exact rw_kW k
theorem itg_dF {d : Addr} {ob : Obj} {kvs : List (List Key × W)} {av : List (List Key × V)} (h : H d = some (.frz ob (.dT av))) (hn : ¬ M d) (r : kvs.map (·.1) = av.map (·.1)) : ItG K mg (Itkt d ob av) ⟨kvs.map fun p => keyW p.1, none⟩ io M H := by
  have hl : kvs.length = av.length := by simpa using congrArg List.length r
  exact {
    go := fun io' M' H' P _ i hi => ⟨P.keep _ _ h hn, by rw [← hl]; simpa using hi⟩
    stop := fun io' M' H' P _ => ⟨P.keep _ _ h hn, by simp [hl]⟩
    yld := fun io' M' H' P _ nt i x H2 y w hw => by
      obtain ⟨rfl, k, u, q, h1, rfl, h2⟩ := y
      refine .inl ⟨rfl, ?_⟩
      have hk : (kvs.map (·.1))[i]? = some k := by rw [r, List.getElem?_map, h1]; rfl
      have e : w = keyW k := by
        rw [List.getElem?_map] at hw hk
        cases e : kvs[i]? with
        | none => rw [e] at hw; cases hw
        | some p => rw [e] at hw hk; cases hw; cases hk; rfl
      subst e
      exact rw_keyW h2 fun z => by
        obtain ⟨o, ho, hno⟩ := nt q z
        exact Nt.of ho hno _ h2 }
theorem ref_iterD {td : TE} {m : Mo RV} (h : RefE K mg ea Wx td m) : RefI K mg ea Wx (iKeys td) (mIterD m) := by
  intro σ H io Fr s S0 r0 s' e R hok hex
  refine one2 h S0 e hex fun x v s1 H1 io1 e2 px => ?_
  obtain ⟨S1, T1, R1⟩ := px.settled
  rcases bnd_some e2 with ⟨z, e3, rfl⟩ | ⟨w, s3, e3, e4⟩
  · obtain ⟨_, _, q, _⟩ := look_ok S1 R1 e3
    cases q
  · obtain ⟨rfl, w', q, r2⟩ := look_ok S1 R1 e3
    cases q
    split at e4
    · rename_i kvs
      cases e4
      obtain ⟨d, ob, av, rfl, hd, hn, rr⟩ := r2.dF
      exact ⟨d, ob, rfl, .inr ⟨av, hd, hok _ rfl _ _ _ ⟨S1, T1⟩ (itg_dF hd hn rr.1)⟩⟩
    · cases e4
/-- len of a locked dict -/
def fLenD : List W → Option OR
  | [.dF kvs] => some (.imm (.int (kvs.length : Nat)))
  | _ => none
theorem cm_lenD {X : Cx} : CallM X (.builtin "len") fLenD := by
  refine ⟨fun xs H Q => ∃ (d : Addr) (ob : Obj) (kvs : List (List Key × V)), xs = [.ref d] ∧ H d = some (.frz ob (.dT kvs)) ∧ Q (.int (kvs.length : Nat)) H, ?_, fun io M H ws vs z Q rx e q => ?_⟩
  · intro pl s σ H xs us Q I r h
    obtain ⟨d, ob, kvs, rfl, hd, q⟩ := h
    obtain ⟨u, rfl, rx⟩ := r.one
    cases (show u = Value.ref d from rx)
    obtain ⟨z1, z2, ys, rl, rd⟩ := dt_rd I.hok (.inr ⟨ob, hd⟩)
    have hl : kvs.length = ys.length := Paired.length rl
    have z3 : ys.length ≤ 16777216 := by rw [sizeLine_eq] at z1; omega
    refine call_len_dictH z2 rd (by omega) ?_
    rw [← hl]
    exact ⟨.int ((kvs.length : Nat) : Int), H, I.tok _, ⟨_, rfl⟩, q⟩
  · unfold fLenD at e
    split at e
    · obtain ⟨v, rfl, r⟩ := p1 rx
      cases e
      obtain ⟨d, ob, av, rfl, hd, _, rr⟩ := r.dF
      refine ⟨d, ob, av, rfl, hd, ?_⟩
      rw [← rr.length]
      exact q _ (.int _)
    · cases e
end
/-! ### derivations -/
section
variable {X : Cx} {ea : EA} {Wx : WX} {pos : Pos} {ke ve tg iter : Expr} {ifs : List Expr} {scope : Scope} {own : List (Str × Nat)} {mi : Mo Wk} {t : W → Mo Unit} {l : List Nat} {mt : Mo Bool} {mk mv me : Mo RV}
theorem pei_dict {e : Expr} {m : Mo RV} (h : Pee X ea Wx e m) : Pei X ea Wx tg e (mIterD m) := let ⟨_, q, r⟩ := h.ex; ⟨_, pi_keys q, ref_iterD r⟩
structure BlkD (X : Cx) (ea : EA) (tg ke ve : Expr) (ifs : List Expr) (scope : Scope) (own : List (Str × Nat)) (t : W → Mo Unit) (l : List Nat) (mt : Mo Bool) (mk mv : Mo RV) : Prop where
  ok : BlkOk X.N X.env.scope scope own
  ne : ∀ w s r s', t w s = some (r, s') → r = .ok ()
  sub : ∀ i ∈ l, i ∈ own.map (·.2)
  tg : ∀ (s : Shared) (H : Hp) (C : Addr) (cl : List (Str × Addr)) (fp : List Addr), Peg (X.blk s H scope (compEnvC scope cl C X.env) fp) ea tg t l
  ts : ∀ (s : Shared) (H : Hp) (C : Addr) (cl : List (Str × Addr)) (fp : List Addr), Pets (X.blk s H scope (compEnvC scope cl C X.env) fp) ea W0 ifs mt
  ky : ∀ (s : Shared) (H : Hp) (C : Addr) (cl : List (Str × Addr)) (fp : List Addr), Pee (X.blk s H scope (compEnvC scope cl C X.env) fp) ea W0 ke mk
  vl : ∀ (s : Shared) (H : Hp) (C : Addr) (cl : List (Str × Addr)) (fp : List Addr), Pee (X.blk s H scope (compEnvC scope cl C X.env) fp) ea W0 ve mv
theorem pee_dc (hu : X.A.units < cLine) (hN : X.N.Nodup) (hi : Pei X ea Wx tg iter mi) (b : BlkD X ea tg ke ve ifs scope own t l mt mk mv) (hc : X.calm = true := by rfl) (hs : ∀ x, foldedSetIterable iter X.env x = pure x := by intro _; rfl) :
    Pee X ea Wx (.DictComp ke ve [⟨tg, iter, ifs, 0⟩] scope pos) (mDcF (own.map (·.2)) (own.map (·.2)) mi t mt (putD mk mv)) := by
  obtain ⟨wi, p, r⟩ := hi.ex
  refine ⟨_, pe_dcF (g := gOf X.K X.mg ea t l) (tt := ttOf X.K X.mg ea W0 mt) (inner := fun D en => putThen ke ve D en) (tb := fun D => tPut (tOf X.K X.mg ea W0 mk) (tOf X.K X.mg ea W0 mv) D) (L := []) (vs := own.map (·.2)) hc hN p b.ok (fun D en v => turn_10) (fun s H C cl fp => (b.tg s H C cl fp).can) (fun s H C cl fp => (b.ts s H C cl fp).can)
    (fun s H C cl fp D => pb_put (X := X.blk s H scope (compEnvC scope cl C X.env) fp) (fun _ _ z => z) hu (b.ky s H C cl fp).can (b.vl s H C cl fp).can) (fun _ z => by simp at z) (fun _ z => by simp at z) hs, ?_⟩
  exact ref_dcF r (ref_gOf b.ne) b.sub (fun _ z => z) (ref_ttOf _) (ref_put (ref_tOf _) (ref_tOf _))
structure BlkD3 (X : Cx) (ea : EA) (tg ke ve : Expr) (ifs : List Expr) (tg1 i1 : Expr) (f1 : List Expr) (tg2 i2 : Expr) (f2 : List Expr) (scope : Scope) (own : List (Str × Nat)) (v0 v1 v2 : List Nat) (t : W → Mo Unit) (l : List Nat) (mt : Mo Bool) (mi1 : Mo Wk) (t1 : W → Mo Unit) (l1 : List Nat) (mt1 : Mo Bool) (mi2 : Mo Wk) (t2 : W → Mo Unit) (l2 : List Nat) (mt2 : Mo Bool) (mk mv : Mo RV) : Prop where
  ok : BlkOk X.N X.env.scope scope own
  ne : ∀ w s r s', t w s = some (r, s') → r = .ok ()
  ne1 : ∀ w s r s', t1 w s = some (r, s') → r = .ok ()
  ne2 : ∀ w s r s', t2 w s = some (r, s') → r = .ok ()
  sub : ∀ i ∈ l, i ∈ v0
  sub1 : ∀ i ∈ l1, i ∈ v1
  sub2 : ∀ i ∈ l2, i ∈ v2
  hv : (∀ i ∈ v0, i ∈ own.map (·.2)) ∧ (∀ i ∈ v1 ++ (v2 ++ []), i ∈ own.map (·.2)) ∧ (∀ i ∈ v1 ++ (v2 ++ []), i ∉ v0) ∧ ∀ i ∈ v2 ++ [], i ∉ v1
  tg : ∀ (s : Shared) (H : Hp) (C : Addr) (cl : List (Str × Addr)) (fp : List Addr), Peg (X.blk s H scope (compEnvC scope cl C X.env) fp) ea tg t l
  ts : ∀ (s : Shared) (H : Hp) (C : Addr) (cl : List (Str × Addr)) (fp : List Addr), Pets (X.blk s H scope (compEnvC scope cl C X.env) fp) ea W0 ifs mt
  it1 : ∀ (s : Shared) (H : Hp) (C : Addr) (cl : List (Str × Addr)) (fp : List Addr), Pei (X.blk s H scope (compEnvC scope cl C X.env) fp) ea W0 tg1 i1 mi1
  tg1 : ∀ (s : Shared) (H : Hp) (C : Addr) (cl : List (Str × Addr)) (fp : List Addr), Peg (X.blk s H scope (compEnvC scope cl C X.env) fp) ea tg1 t1 l1
  ts1 : ∀ (s : Shared) (H : Hp) (C : Addr) (cl : List (Str × Addr)) (fp : List Addr), Pets (X.blk s H scope (compEnvC scope cl C X.env) fp) ea W0 f1 mt1
  it2 : ∀ (s : Shared) (H : Hp) (C : Addr) (cl : List (Str × Addr)) (fp : List Addr), Pei (X.blk s H scope (compEnvC scope cl C X.env) fp) ea W0 tg2 i2 mi2
  tg2 : ∀ (s : Shared) (H : Hp) (C : Addr) (cl : List (Str × Addr)) (fp : List Addr), Peg (X.blk s H scope (compEnvC scope cl C X.env) fp) ea tg2 t2 l2
  ts2 : ∀ (s : Shared) (H : Hp) (C : Addr) (cl : List (Str × Addr)) (fp : List Addr), Pets (X.blk s H scope (compEnvC scope cl C X.env) fp) ea W0 f2 mt2
  ky : ∀ (s : Shared) (H : Hp) (C : Addr) (cl : List (Str × Addr)) (fp : List Addr), Pee (X.blk s H scope (compEnvC scope cl C X.env) fp) ea W0 ke mk
  vl : ∀ (s : Shared) (H : Hp) (C : Addr) (cl : List (Str × Addr)) (fp : List Addr), Pee (X.blk s H scope (compEnvC scope cl C X.env) fp) ea W0 ve mv
theorem pee_dc3 {tg1 i1 tg2 i2 : Expr} {f1 f2 : List Expr} {v0 v1 v2 l1 l2 : List Nat} {mi1 mi2 : Mo Wk} {t1 t2 : W → Mo Unit} {mt1 mt2 : Mo Bool} (hu : X.A.units < cLine) (hN : X.N.Nodup) (hi : Pei X ea Wx tg iter mi) (b : BlkD3 X ea tg ke ve ifs tg1 i1 f1 tg2 i2 f2 scope own v0 v1 v2 t l mt mi1 t1 l1 mt1 mi2 t2 l2 mt2 mk mv) (hc : X.calm = true := by rfl) (hs : ∀ x, foldedSetIterable iter X.env x = pure x := by intro _; rfl)
    (hs1 : ∀ env x, foldedSetIterable i1 env x = pure x := by intro _ _; rfl) (hs2 : ∀ env x, foldedSetIterable i2 env x = pure x := by intro _ _; rfl) :
    Pee X ea Wx (.DictComp ke ve [⟨tg, iter, ifs, 0⟩, ⟨tg1, i1, f1, 0⟩, ⟨tg2, i2, f2, 0⟩] scope pos) (mDcF (own.map (·.2)) v0 mi t mt (clM v1 mi1 t1 mt1 (clM v2 mi2 t2 mt2 (putD mk mv)))) := by
  obtain ⟨wi, p, r⟩ := hi.ex
  obtain ⟨h1, h2, h3, h4⟩ := b.hv
  refine ⟨_, pe_dcF (g := gOf X.K X.mg ea t l) (tt := ttOf X.K X.mg ea W0 mt) (inner := fun D en => clauseSem (.DictComp ke ve [⟨tg, iter, ifs, 0⟩, ⟨tg1, i1, f1, 0⟩, ⟨tg2, i2, f2, 0⟩] scope pos) 1 i1 (.ref D) en) (tb := fun D => tClause (iOf X.K X.mg ea W0 mi1) (gOf X.K X.mg ea t1 l1) (ttOf X.K X.mg ea W0 mt1) v1 (tClause (iOf X.K X.mg ea W0 mi2) (gOf X.K X.mg ea t2 l2) (ttOf X.K X.mg ea W0 mt2) v2 (tPut (tOf X.K X.mg ea W0 mk) (tOf X.K X.mg ea W0 mv) D))) (L := v1 ++ (v2 ++ [])) (vs := v0) hc hN p b.ok (fun D en v => turn_30) (fun s H C cl fp => (b.tg s H C cl fp).can) (fun s H C cl fp => (b.ts s H C cl fp).can)
    (fun s H C cl fp D => pb_clause (X := X.blk s H scope (compEnvC scope cl C X.env) fp) (fun _ _ z => z) hc (fun v => turn_31) (fun v => start_31) (fun y => hs1 _ y) (b.it1 s H C cl fp).can (b.tg1 s H C cl fp).can (b.ts1 s H C cl fp).can
      (pb_clause (X := X.blk s H scope (compEnvC scope cl C X.env) fp) (fun _ _ z => z) hc (fun v => turn_32) (fun v => start_32) (fun y => hs2 _ y) (b.it2 s H C cl fp).can (b.tg2 s H C cl fp).can (b.ts2 s H C cl fp).can
        (pb_put (X := X.blk s H scope (compEnvC scope cl C X.env) fp) (fun _ _ z => z) hu (b.ky s H C cl fp).can (b.vl s H C cl fp).can) (fun i z => by simp at z)) h4) h3 h2 hs, ?_⟩
  exact ref_dcF r (ref_gOf b.ne) b.sub h1 (ref_ttOf _) (ref_clause (ref_iOf _) (ref_gOf b.ne1) b.sub1 (ref_ttOf _) (ref_clause (ref_iOf _) (ref_gOf b.ne2) b.sub2 (ref_ttOf _) (ref_put (ref_tOf _) (ref_tOf _))))
end
end Z

set_option linter.all false
set_option Elab.async false
set_option maxRecDepth 100000
/-! Z33: two locked dicts with tuple keys compared, all values True. -/
namespace Z
open PySem PySem.Spec PyProof.Rows L2
section
variable {prog : Program} {w : World} {κ : Type} [DecidableEq κ] {knd : HeapKind prog w κ} {A : Around} {E : Value → Shared → Prop} {s : Shared}
/-- for i in range(n), left at the first i that fails a test -/
theorem until_fails {n : Nat} {f : Nat → Option Bool × Unit → Sem (ForInStep (Option Bool × Unit))} (t : Nat → Bool) (turn : ∀ i (Q : ForInStep (Option Bool × Unit) → Shared → Prop), i < n → Q (if t i then .yield (none, ()) else .done (some false, ())) s → wpAny (model prog w) A (f i (none, ())) Q E s) :
    ∀ (k m : Nat) (Q : Option Bool × Unit → Shared → Prop), m + k = n → Q (if (List.range' m k).all t then (none, ()) else (some false, ())) s → wpAny (model prog w) A (forIn (List.range' m k) (none, ()) f) Q E s := by
  intro k
  induction k with
  | zero => exact fun m Q _ h => wpAny_pure (by simpa using h)
  | succ k ih =>
    intro m Q e h
    rw [List.range'_succ, List.forIn_cons]
    refine wpAny_bind (turn m _ (by omega) ?_)
    rw [List.range'_succ, List.all_cons] at h
    cases b : t m with
    | false =>
      rw [b] at h
      exact wpAny_pure (by simpa using h)
    | true =>
      rw [b, Bool.true_and] at h
      exact ih (m + 1) Q (by omega) h
def inKeys (ys : List (κ × Addr × Value)) (k : κ) : Bool := ys.any fun q => decide (q.1 = k)
theorem inKeys_at {ys : List (κ × Addr × Value)} {k : κ} {n : Nat} {p : Addr × Value} (h : ys[n]? = some (k, p)) : inKeys ys k = true := List.any_eq_true.mpr ⟨_, List.mem_of_getElem? h, by simp⟩
theorem inKeys_not {ys : List (κ × Addr × Value)} {k : κ} (h : ∀ q ∈ ys, q.1 ≠ k) : inKeys ys k = false := List.any_eq_false.mpr fun q m => by simpa using h q m
theorem samePairsH {nm : String} {a b : Addr} {xs ys : List (κ × Addr × Value)} {Q : Bool → Shared → Prop} (na : (a == sysModules) = false) (nb : (b == sysModules) = false) (da : s.heap.DictOfH knd a xs) (db : s.heap.DictOfH knd b ys)
    (room : knd.room A) (vx : ∀ p ∈ xs, p.2.2 = .bool true) (vy : ∀ p ∈ ys, p.2.2 = .bool true) (h : Q (xs.length == ys.length && xs.all fun p => inKeys ys p.1) s) : wpAny (model prog w) A (Builtin.Dict.samePairs nm a b) Q E s := by
  obtain ⟨o1, es, ep, g1, _, g2, g3, g4, _⟩ := da
  obtain ⟨o2, fs, fp, k1, _, k2, k3, k4, k5⟩ := db
  have l1 := size_of_entries g3
  have l2 := size_of_entries k3
  have shown : ∀ {c : Addr} {P : Unit → Shared → Prop}, (c == sysModules) = false → P () s → wpAny (model prog w) A (Builtin.Dict.showsAll c) P E s := fun z hp => by
    show wpAny _ _ (if _ then _ else _) _ _ _
    rw [z, if_neg Bool.noConfusion]
    exact wpAny_pure hp
  unfold Builtin.Dict.samePairs
  refine wpAny_bind (shown na (wpAny_bind (shown nb (wpAny_bind (wpAny_dictEntries g1 g2 (wpAny_bind (wpAny_dictEntries k1 k2 ?_)))))))
  dsimp only
  rw [l1, l2]
  by_cases same : xs.length = ys.length
  · rw [if_neg (by simp [same])]
    refine wpAny_bind (wpAny_dictEpoch g1 g2 (wpAny_bind ?_))
    simp only [Std.Legacy.Range.forIn_eq_forIn_range', Std.Legacy.Range.size, Nat.sub_zero, Nat.add_sub_cancel, Nat.div_one]
    refine until_fails (fun i => (xs[i]?).any fun p => inKeys ys p.1) (fun i P lt hp => ?_) xs.length 0 _ (Nat.zero_add _) ?_
    · refine wpAny_bind (wpAny_dictEntries g1 g2 ?_)
      rw [show es[i]? = some (entryOfKey knd xs[i]) from by rw [entry_at g3, List.getElem?_eq_getElem lt]; rfl]
      rw [List.getElem?_eq_getElem lt, Option.any_some] at hp
      refine wpAny_bind (wpAny_holding (wpAny_bind (wpAny_dictFind_heap room (g4 _ (List.getElem_mem lt)) k1 k2 k3 k4 k5 (fun no => ?_) fun n p at_ => ?_)))
      · rw [inKeys_not fun q m z => ?_] at hp
        · refine wpAny_pure ?_
          rw [if_pos (by rfl)]
          exact wpAny_pure hp
        · obtain ⟨n, hn, rfl⟩ := List.mem_iff_getElem.mp m
          exact no n ys[n].2 (by rw [List.getElem?_eq_getElem hn, ← z])
      · rw [inKeys_at at_] at hp
        refine wpAny_bind (wpAny_dictEntries k1 k2 ?_)
        rw [show fs[n]? = some (entryOfKey knd (xs[i].1, p)) from by rw [entry_at k3, at_]; rfl]
        dsimp only
        rw [show (entryOfKey knd xs[i]).val = .bool true from vx _ (List.getElem_mem lt), show (entryOfKey knd (xs[i].1, p)).val = .bool true from vy _ (List.mem_of_getElem? at_)]
        refine wpAny_holding ((PySem.W.keq_flat (PyProof.V.Flat.bool true) (PyProof.V.Flat.bool true) : SeqAt.EqAt _ _ _ _ _) prog w _ _ ?_)
        rw [if_neg (by decide)]
        refine wpAny_bind (wpAny_dictEpoch g1 g2 ?_)
        rw [if_neg (by simp)]
        exact wpAny_pure hp
    · have all : (List.range' 0 xs.length).all (fun i => (xs[i]?).any fun p => inKeys ys p.1) = xs.all fun p => inKeys ys p.1 := by
        rw [Bool.eq_iff_iff, List.all_eq_true, List.all_eq_true]
        constructor
        · intro k p m
          obtain ⟨n, hn, rfl⟩ := List.mem_iff_getElem.mp m
          simpa [hn] using k n (by simp [List.mem_range'_1, hn])
        · intro k n m
          have hn : n < xs.length := by simpa [List.mem_range'_1] using m
          simpa [hn] using k _ (List.getElem_mem hn)
      rw [all]
      rw [show (xs.length == ys.length) = true from by simp [same], Bool.true_and] at h
      cases b : xs.all fun p => inKeys ys p.1 with
      | true => rw [b] at h; exact wpAny_pure h
      | false => rw [b] at h; exact wpAny_pure h
  · rw [if_pos (by simp [same])]
    rw [show (xs.length == ys.length) = false from by simp [same], Bool.false_and] at h
    exact wpAny_bind (wpAny_rule (wpAny_pure h))
theorem eqH {a b : Addr} {xs ys : List (κ × Addr × Value)} {Q : Value → Shared → Prop} (na : (a == sysModules) = false) (nb : (b == sysModules) = false) (da : s.heap.DictOfH knd a xs) (db : s.heap.DictOfH knd b ys) (hu : A.units < cLine)
    (room : knd.room A.in1) (vx : ∀ p ∈ xs, p.2.2 = .bool true) (vy : ∀ p ∈ ys, p.2.2 = .bool true) (h : Q (.bool (xs.length == ys.length && xs.all fun p => inKeys ys p.1)) s) : wpAny (model prog w) A (compareOp .Eq (.ref a) (.ref b)) Q E s := by
  apply wpAny_richCompare_same_room (op := .Eq) da.typeIs db.typeIs PySem.F.slot_dict_eq _ hu
  apply wpAny_call_entry PySem.F.slot_dict_eq da.typeIs PySem.F.entry_dict_eq _ (PySem.F.args_dict_eq_2 _ _)
  have args : ∀ {P : Value × Value → Shared → Prop} {E : Value → Shared → Prop}, P (.ref a, .ref b) s → wpAny (model prog w) A.in1 (Builtin.Dict.dictSlotArgs "__eq__" ⟨[.ref a, .ref b], []⟩) P E s := fun z => by
    unfold Builtin.Dict.dictSlotArgs
    exact wpAny_bind (wpAny_notOrdered_dict da.typeIs (wpAny_pure z))
  refine wpAny_bind (args (wpAny_bind (wpAny_isInstance (T := "dict") db.typeIs PySem.F.sub_dict_dict ?_)))
  rw [if_neg (by decide)]
  refine wpAny_bind (wpAny_pure (wpAny_bind (wpAny_pure (wpAny_bind (samePairsH na nb da db room vx vy (wpAny_pure ⟨_, rfl, Value.noConfusion, ?_⟩))))))
  rwa [beq_true]
end
/-! ### the operator -/
def trues (kvs : List (List Key × W)) : Bool := kvs.all fun p => match p.2 with
  | .bl true => true
  | _ => false
def sameKs {κ : Type} [DecidableEq κ] (a b : List κ) : Bool := a.length == b.length && a.all fun k => b.any fun q => decide (q = k)
theorem sameKs_of {κ : Type} [DecidableEq κ] (xs ys : List (κ × Addr × Value)) : (xs.length == ys.length && xs.all fun p => inKeys ys p.1) = sameKs (xs.map (·.1)) (ys.map (·.1)) := by
  unfold sameKs inKeys
  simp only [List.length_map, List.all_map, List.any_map]
  rfl
def fEqF : W → W → Option OR
  | .dF a, .dF b => if trues a ∧ trues b then some (.imm (.bl (sameKs (a.map (·.1)) (b.map (·.1))))) else none
  | _, _ => none
def allT (kvs : List (List Key × V)) : Prop := ∀ p ∈ kvs, p.2 = .bl true
section
variable {K : PySem.W.Frag} {mg : Str → Option Value} {io : List Addr} {M : Addr → Prop} {H : Hp} {X : Cx}
theorem allT_of {ws : List (List Key × W)} {vs : List (List Key × V)} (r : Rkv K mg io M H ws vs) (h : trues ws = true) : allT vs := by
  rintro p m
  obtain ⟨i, hi, rfl⟩ := List.mem_iff_getElem.mp m
  have hl : i < ws.length := by rw [r.length]; exact hi
  have q := r.2.2 i ws[i].2 vs[i].2 (by simp [hl]) (by simp [hi])
  have z := List.all_eq_true.mp h ws[i] (List.getElem_mem hl)
  split at z
  · rename_i e
    rw [e] at q
    generalize vs[i].2 = v at q
    cases q
    rfl
  · cases z
theorem kt_true {vs : List (List Key × V)} {xs : List (List Key × Addr × Value)} (r : L2.KT H vs xs) (h : allT vs) : (∀ p ∈ xs, p.2.2 = .bool true) ∧ xs.map (·.1) = vs.map (·.1) := by
  induction r with
  | nil => exact ⟨fun p m => by simp at m, rfl⟩
  | @cons p q ps qs h1 t ih =>
    obtain ⟨i1, i2⟩ := ih fun p m => h p (List.mem_cons_of_mem _ m)
    have z := h p (List.mem_cons_self ..)
    refine ⟨fun y m => ?_, by simp [i2, h1.1]⟩
    rcases List.mem_cons.mp m with rfl | m
    · have := h1.2.2
      rw [z] at this
      exact this
    · exact i1 y m
theorem om_eqF (hu : X.A.units + 1 < cLine) : OpM X (compareOp .Eq) fEqF := by
  refine ⟨fun x y H Q => ∃ a b oa ob va vb, x = .ref a ∧ y = .ref b ∧ H a = some (.frz oa (.dT va)) ∧ H b = some (.frz ob (.dT vb)) ∧ allT va ∧ allT vb ∧ Q (.bl (sameKs (va.map (·.1)) (vb.map (·.1)))) H, ?_, fun io M H x y vx vy z Q rx ry e q => ?_⟩
  · rintro pins s σ H x y v u Q I rx ry ⟨a, b, oa, ob, va, vb, rfl, rfl, ha, hb, ta, tb, q⟩
    cases rx
    cases ry
    obtain ⟨_, na, xs, rl, rd⟩ := dt_rd I.hok (.inr ⟨oa, ha⟩)
    obtain ⟨_, nb, ys, rl2, rd2⟩ := dt_rd I.hok (.inr ⟨ob, hb⟩)
    obtain ⟨t1, k1⟩ := kt_true rl ta
    obtain ⟨t2, k2⟩ := kt_true rl2 tb
    have same : (xs.length == ys.length && xs.all fun p => inKeys ys p.1) = sameKs (va.map (·.1)) (vb.map (·.1)) := by
      rw [sameKs_of, k1, k2]
    refine eqH na nb rd rd2 (by omega) (by show X.A.units + 1 < cLine; exact hu) t1 t2 ?_
    rw [same]
    exact ⟨_, H, I, show RelV (.bl _) _ from rfl, q⟩
  · unfold fEqF at e
    split at e
    · rename_i a b
      split at e
      · rename_i t
        cases e
        obtain ⟨d, ob, av, rfl, hd, _, rr⟩ := rx.dF
        obtain ⟨d2, ob2, av2, rfl, hd2, _, rr2⟩ := ry.dF
        refine ⟨d, d2, ob, ob2, av, av2, rfl, rfl, hd, hd2, allT_of rr t.1, allT_of rr2 t.2, ?_⟩
        rw [← rr.1, ← rr2.1]
        exact q _ (.bl _)
      · cases e
    · cases e
end
end Z

set_option linter.all false
set_option Elab.async false
set_option maxRecDepth 100000
/-! Z34: list(o) of an own instance over a locked dict. -/
namespace Z
open PySem PySem.Spec PyProof.Rows L2
def srcD (d : Addr) (ob : Obj) (av : List (List Key × V)) : Src where
  src := d
  len := av.length
  st := fun it i h => ∃ es ep, ob.data = .dict es ep ∧ es.size = av.length ∧ h.IsKeyIter it d i es.size ep
  fin := fun _ => none
  yl := fun i v H => ∃ k u q, av[i]? = some (k, u) ∧ v = .ref q ∧ H q = some (.tup (k.map kV))
  ok := fun H => H d = some (.frz ob (.dT av))
def mkD (u : V) (S : Src) : Prop := ∃ d ob av, u = .ref d ∧ S = srcD d ob av
theorem srcD_ok {P : Program} {w : World} {H : Hp} {h : Heap} {d it : Addr} {ob : Obj} {av : List (List Key × V)} {i : Nat} (e : (srcD d ob av).st it i h) : ObjOk P w H h it ((srcD d ob av).at it i) := by
  refine ⟨e, ?_, ?_⟩
  · obtain ⟨_, _, _, _, o, z, _⟩ := e
    exact ⟨o, z⟩
  · rintro h1 h2 ⟨es, ep, e1, e2, z⟩ k
    exact ⟨es, ep, e1, e2, z.at k⟩
section
variable {X : Cx} {pins : List (Addr × Obj)} {σ : L2.St} {H : Hp} {s : Shared} {it d : Addr} {ob : Obj} {av : List (List Key × V)} {A : Around} {E : Value → Shared → Prop}
theorem paired_at {α β : Type} {F : α → β → Prop} {l : List α} {m : List β} (p : Paired F l m) : ∀ {i : Nat} {a : α} {b : β}, l[i]? = some a → m[i]? = some b → F a b := by
  induction p with
  | nil => intro i a b e; simp at e
  | cons r t ih =>
    intro i a b e e2
    cases i with
    | zero =>
      cases e
      cases e2
      exact r
    | succ i => exact ih (by simpa using e) (by simpa using e2)
/-- the dict as the state has it -/
theorem dict_at (I : Inv X pins σ H s) (h : H d = some (.frz ob (.dT av))) : (d == sysModules) = false ∧ s.heap.get? d = some ob ∧ ob.ExactDict ∧ ∃ es ep, ob.data = .dict es ep ∧ es.size = av.length ∧
    ∀ (i : Nat) (k : List Key) (u : V), av[i]? = some (k, u) → ∃ (en : DictEntry) (q : Addr), es[i]? = some en ∧ en.key = .ref q ∧ H q = some (.tup (k.map kV)) := by
  obtain ⟨g, _, no, xs, pr, o, es, ep, g2, ex, data, ent, _⟩ := (show ObjOk X.prog X.w H s.heap d (.frz ob (.dT av)) from I.hok d _ h)
  rw [g] at g2
  cases g2
  have size := size_of_entries ent
  refine ⟨no, g, ex, es, ep, data, by rw [size]; exact (Paired.length pr).symm, fun i k u e => ?_⟩
  have li : i < xs.length := by rw [← Paired.length pr]; exact get_lt e
  have p := paired_at pr e (List.getElem?_eq_getElem li)
  exact ⟨entryOfKey _ xs[i], xs[i].2.1, by rw [entry_at ent, List.getElem?_eq_getElem li]; rfl, rfl, p.2.1⟩
theorem stepsD (hh : A.handled = none) (hx : X.ex = []) (h0 : ∀ a, X.s_0.heap.get? a = none → X.H_0 a = none) (new : X.s_0.heap.get? it = none) : Steps X A it (srcD d ob av) where
  ty := fun I e => let ⟨_, _, _, _, z⟩ := (I.hok it _ e).1; ⟨"dict_keyiterator", _, z.typeIs, PySem.F.slot_dict_keyiterator_next⟩
  more := by
    intro pins σ H s i Q E I e ok lt k
    obtain ⟨_, g, _, es, ep, data, size, ent⟩ := dict_at I (show H d = _ from ok)
    obtain ⟨es', ep', data', size', z⟩ := (I.hok it _ e).1
    rw [data] at data'
    cases data'
    obtain ⟨en, q, e1, e2, e3⟩ := ent i av[i].1 av[i].2 (List.getElem?_eq_getElem lt)
    refine next_key_item z g data rfl e1 fun h' z' sb => ?_
    rw [e2]
    exact k (.ref q) _ _ ⟨_, _, q, List.getElem?_eq_getElem lt, rfl, e3⟩ rfl (I.write (e := it) (t' := s.toks) (by rw [e]; exact True.intro) (.inl rfl) (fun b u nb hb => (sb.2 b nb).trans hb) (let ⟨o, ho, _⟩ := z'; ⟨o, ho⟩) (srcD_ok ⟨es, ep, data, size, z'⟩))
  last := by
    intro pins σ H s Q E I e ok k
    obtain ⟨_, g, _, es, ep, data, size, ent⟩ := dict_at I (show H d = _ from ok)
    obtain ⟨es', ep', data', size', z⟩ := (I.hok it _ e).1
    rw [data] at data'
    cases data'
    refine next_key_end hh z g data rfl (Nat.le_of_eq size) fun h' xb => ?_
    obtain ⟨G, sub, gone, J⟩ := I.untrack e (fr0_none (h0 it new)) hx
    refine k _ ?_
    have K := J.kept (h' := h') (t' := s.toks) fun b o hb => xb b o (fun z => by rw [z, gone] at hb; cases hb) (sub b o hb)
    exact K
theorem mildD : Mild (srcD d ob av) where
  ok := fun {H H'} h e => by
    show H' d = _
    rw [show H' d = H d from e]
    exact h
  yl := fun {H H' i v} h k => let ⟨a, b, q, h1, h2, h3⟩ := h; ⟨a, b, q, h1, h2, k _ _ h3⟩
theorem goodD (hh : X.A.handled = none) (hx : X.ex = []) (h0 : ∀ a, X.s_0.heap.get? a = none → X.H_0 a = none) : Good X X.A.in1.in1 mkD := by
  rintro _ _ ⟨d, ob, av, rfl, rfl⟩
  refine ⟨mildD, fun {pins σ H s} I ok => ⟨⟨ob, (dict_at I ok).2.1⟩, fun it z => stepsD hh hx h0 ?_⟩⟩
  cases e : X.s_0.heap.get? it with
  | none => rfl
  | some o =>
    obtain ⟨o', e'⟩ := I.base.there it o e (by rw [hx]; exact fun z => nomatch z)
    rw [z] at e'
    cases e'
/-- iter(x) is what x's type gives -/
theorem iter_of {P : Program} {w : World} {v : Value} {Q : Value → Shared → Prop} (h : ∀ {A : Around} {Q' : Value → Shared → Prop} {E : Value → Shared → Prop}, (∀ r s', Q r s' → Q' r s') → wpAny (model P w) A (pyIter v) Q' E s) : wpAny (model P w) A (call (.builtin "iter") [v]) Q E s := by
  apply Calls.call_function_entry (by decide +kernel) (by decide +kernel) PySem.W.kdk_entry_iter (PySem.W.kdk_args_iter _)
  have one : (Builtin.«iter» ⟨[v], []⟩ : Sem PySem.Fin) = (do PySem.ret (← pyIter v)) := by first | rfl | kernel_rfl
  rw [one]
  exact wpAny_bind (h fun r s' q => wpAny_pure ⟨_, rfl, q⟩)
theorem call_iterD : CallR X (.builtin "iter") fun xs H Q => ∃ u Z, xs = [u] ∧ mkD u Z ∧ Z.ok H ∧ ∀ it, H it = none → Q (.ref it) (upd H it (Z.at it 0)) := by
  rintro pins s σ H _ _ Q I r ⟨_, _, rfl, ⟨d, ob, av, rfl, rfl⟩, ok, q⟩
  cases Vals.ref1 r
  obtain ⟨no, g, ex, es, ep, data, size, _⟩ := dict_at I ok
  refine iter_of fun up => wpAny_pyIter_dict_raw no ⟨ob, g, ex, data⟩ (up _ _ ?_)
  have here := Heap.get?_push_size s.heap (o := { cls := .type "dict_keyiterator", data := .fields #[.ref d, .int 0 0, .int es.size 0, .int ep 0] }) rfl
  exact ⟨.ref _, _, I.laid (t' := s.toks) (fun _ _ e => Heap.get?_push_of_some _ e) (Nat.le_refl _) (srcD_ok ⟨es, ep, data, size, _, here, rfl, rfl⟩), rfl, q _ (I.hok.fresh (Nat.le_refl _))⟩
end
/-! ### the mirror -/
def rdD : W → Option (List W)
  | .dF kvs => if kvs.length ≤ sz then some (kvs.map fun p => keyW p.1) else none
  | _ => none
theorem rdD_ok {K : PySem.W.Frag} {mg : Str → Option Value} : RdOk K mg mkD rdD := by
  intro io M H w v zs R e
  unfold rdD at e
  split at e
  · rename_i kvs
    split at e
    · rename_i few
      cases e
      obtain ⟨d, ob, av, rfl, hd, hn, rr⟩ := (show Rn K mg io M H (.dF kvs) v from .inl R).dF
      have hl : kvs.length = av.length := rr.length
      refine ⟨srcD d ob av, ⟨d, ob, av, rfl, rfl⟩, hd, by simp [srcD, hl], by simpa using few, fun {io' M' H'} p nt => ⟨p.keep _ _ hd hn, fun ys len al => ?_⟩⟩
      refine ⟨by rw [List.length_map, hl]; exact len.symm, fun i w v h1 h2 => ?_⟩
      obtain ⟨k, u, q, h3, rfl, h4⟩ := al i v h2
      have hk : (kvs.map (·.1))[i]? = some k := by rw [rr.1, List.getElem?_map, h3]; rfl
      rw [List.getElem?_map] at h1 hk
      cases e : kvs[i]? with
      | none => rw [e] at h1; cases h1
      | some y =>
        rw [e] at h1 hk
        cases h1
        cases hk
        exact rw_keyW h4 fun z => by
          obtain ⟨o, ho, hno⟩ := nt q z
          exact Nt.of ho hno _ h4
    · cases e
  · cases e
theorem objOk_alive {P : Program} {w : World} {H : Hp} {h : Heap} {a : Addr} {o : HO} (x : ObjOk P w H h a o) : ∃ u, h.get? a = some u := by
  cases o with
  | lst xs => exact let ⟨_, _, _, _, e⟩ := x; ⟨_, e⟩
  | tup xs => exact let ⟨_, _, _, o, e, _⟩ := x; ⟨o, e⟩
  | dK kvs => exact let ⟨_, _, _, _, o, _, _, e, _⟩ := x; ⟨o, e⟩
  | dT kvs => exact let ⟨_, _, _, _, o, _, _, e, _⟩ := x; ⟨o, e⟩
  | set S n => exact let ⟨o, _, _, _, e, _⟩ := x; ⟨o, e⟩
  | ins C dx fs => exact let ⟨_, _, _, e, _⟩ := x; ⟨_, e⟩
  | own y => exact x
  | xd fs => exact let ⟨_, ⟨o, _, _, e, _⟩, _⟩ := x; ⟨o, e⟩
  | rng lo hi => exact let ⟨_, _, _, e⟩ := x; ⟨_, e⟩
  | frz ob u => exact ⟨_, x.1⟩
  | tbl ps => exact ⟨_, x⟩
  | met f y => exact ⟨_, x⟩
  | ext φ => exact x.2.1
/-! ### a def that knows what it was called with -/
theorem defH {K : PySem.W.Frag} {mg : Str → Option Value} {P : Program} {w : World} {base : Heap} {x qual : Str} {st : Stmt} {f : Addr} {fd : FuncData} {N ps : List Str} {k n : Nat} {body : Mo Fl} (F : Fun K x qual st f fd) (S : FnScope N ps (defScope st)) (hn : N.length = n)
    (hb : ∀ (cdv : Value) (A : Around) (outer : List Env) (s : Shared) (H : Hp) (E : XK), (∀ a, s.heap.get? a = none → H a = none) → Room k (A.deeper (envOfC qual (defScope st) s.heap.objs.size f cdv)) →
      Pess (cxOf (L2.CX P w) P w K mg base N qual (defScope st) f cdv A outer s H E) ea0 (fun cls d _ H => E cls d H) (defBody st) body) : FnM P w K mg base (k + 1) f fd ps (fnM n body) := by
  refine ⟨fun vs H Q E h => h.1, ?_⟩
  intro A outer s H args us vs Q E room e0 bt rv sp
  obtain ⟨_, _, _, _, _, _, cdv, _, _, rfl, lk, hcd⟩ := F.ex
  have born : ∀ b o, base.get? b = some o → s.heap.get? b = some o := fun b o e => (e0.bs b o e).1
  have kin := e0.mod.kin.keeps born
  have dead : ∀ a, s.heap.get? a = none → H a = none := fun a z => by
    cases e : H a with
    | none => rfl
    | some o =>
      obtain ⟨u, hu⟩ := objOk_alive (e0.hok a o e)
      rw [z] at hu
      cases hu
  refine codeAny_call_function room.depth (kin _ _ lk) rfl S.co S.gen rfl (PySem.W.codeRec_of kin hcd) (bt _ _ _ _ (wpAny_newFunctionEnv_cells S.kind (par_lives S) ?_))
  rintro _ rfl s1 x
  obtain ⟨t, p, rf⟩ := (hb cdv A outer s H E dead (room.deeper _)).ex
  have few : ps.length ≤ n := by rw [← hn, ← S.pre]; exact List.length_take_le' _ _
  refine ⟨(e0.mod.nolimit.keeps born).keeps x.toInCall.keep, codeAny_func (wpAny_mono (p.run [] s1 _ H _ (inv_start S room.hd e0 sp.1 rv x) (spM_body hn few rf sp)) (fun fl s' h => ?_) fun _ _ h => h)⟩
  have out := body_end rfl rfl h
  cases fl <;> exact out
end Z

set_option linter.all false
set_option Elab.async false
set_option maxRecDepth 100000
/-! Z35: defs with defaults; defs that know what they were called with; list(o) over a locked dict, as a derivation. -/
namespace Z
open PySem PySem.Spec PyProof.Rows L2
/-- a def whose last parameter has a default, the object at E -/
abbrev FunE (K : PySem.W.Frag) (x qual : Str) (st : Stmt) (f : Addr) (fd : FuncData) (E : Addr) : Prop := L2.FunD K x qual (defArgs st) (defBody st) (defScope st) [.ref E] [] f fd
section
variable {P : Program} {w : World} {K : PySem.W.Frag} {mg : Str → Option Value} {base : Heap} {x qual : Str} {st : Stmt} {f E : Addr} {fd : FuncData} {N ps : List Str} {k n : Nat} {body : Mo Fl}
theorem funE_mk {oc kV doc pm cdv ct tc : Value} {od an td : Option Addr} {osl ts : Array (Option Value)} {T : Addr} {tn : Nat} (l : K.lookup f = some ⟨oc, od, .func (PySem.W.fnOf x qual (defArgs st) (defBody st) (defScope st) (.ref T) kV doc pm an cdv ct), osl⟩) (c : PySem.W.codeIn K cdv qual = true) (k : PySem.W.keepIn K (.ref f) = true)
    (t : K.lookup T = some ⟨tc, td, .seq #[.ref E] tn, ts⟩) : FunE K x qual st f (PySem.W.fnOf x qual (defArgs st) (defBody st) (defScope st) (.ref T) kV doc pm an cdv ct) E :=
  ⟨⟨oc, od, .ref T, kV, doc, pm, an, cdv, ct, osl, rfl, l, c, .inr ⟨by simp, T, _, [.ref E], tn, rfl, t, rfl, .cons rfl .nil⟩, .inl rfl⟩, k⟩
/-- how such a def binds n values -/
abbrev BindE (x qual : Str) (st : Stmt) (ps : List Str) (n j : Nat) : Prop := ∀ (T : Addr) (kV doc pm : Value) (an : Option Addr) (cdv ct : Value) (us its : List Value), us.length = n → its.length = 1 →
  ∃ k, bindArgs (PySem.W.fnOf x qual (defArgs st) (defBody st) (defScope st) (.ref T) kV doc pm an cdv ct) ⟨us, []⟩ = seqItems? (.ref T) >>= k ∧ k (some its.toArray) = pure (ps.zip (us ++ its.drop j))
theorem FunE.all (F : FunE K x qual st f fd E) (h : BindE x qual st ps ps.length 1) : Binds K fd ps [] := by
  obtain ⟨ds, r, b⟩ := L2.FunD.binds1 F ps.length 1 (by simp) (by simp) h
  cases r
  exact b
theorem FunE.less (F : FunE K x qual st f fd E) (n : Nat) (hn : n + 1 = ps.length) (h : BindE x qual st ps n 0) : Binds K fd ps [.ref E] := by
  obtain ⟨ds, r, b⟩ := L2.FunD.binds1 F n 0 (by simp) (by simpa using hn) h
  obtain ⟨u, rfl, e⟩ := Vals.one r
  cases e
  exact b
theorem defD2 (F : FunE K x qual st f fd E) (S : FnScope N ps (defScope st)) (hn : N.length = n)
    (hb : ∀ (cdv : Value) (A : Around) (outer : List Env) (s : Shared) (H : Hp) (E : XK), Room k (A.deeper (envOfC qual (defScope st) s.heap.objs.size f cdv)) → (A.deeper (envOfC qual (defScope st) s.heap.objs.size f cdv)).units + 150 < cLine →
      Takes (cxOf (L2.CX P w) P w K mg base N qual (defScope st) f cdv A outer s H E) (fun cls d _ H => E cls d H) →
      PassesOwn (model P w) (A.deeper (envOfC qual (defScope st) s.heap.objs.size f cdv)) (envOfC qual (defScope st) s.heap.objs.size f cdv) (cxOf (L2.CX P w) P w K mg base N qual (defScope st) f cdv A outer s H E).xe →
      Pess (cxOf (L2.CX P w) P w K mg base N qual (defScope st) f cdv A outer s H E) ea0 (fun cls d _ H => E cls d H) (defBody st) body) : FnM P w K mg base (k + 1) f fd ps (fnM n body) := by
  obtain ⟨_, _, _, _, _, _, _, cdv, _, _, rfl, lk, hcd, _, _⟩ := F.ex
  refine ⟨fn_of lk hcd S (fun vs H Q E h => h.1) fun A outer s H vs Q E hr sp => ?_⟩
  obtain ⟨t, p, rf⟩ := (hb cdv A outer s H E hr (by have := hr.un; omega) (takes_of rfl rfl rfl rfl) (passes_of rfl)).ex
  exact ⟨t, p, spM_body hn (by rw [← hn, ← S.pre]; exact List.length_take_le' _ _) rf sp⟩
theorem defH2 (F : Fun K x qual st f fd) (S : FnScope N ps (defScope st)) (hn : N.length = n)
    (hb : ∀ (cdv : Value) (A : Around) (outer : List Env) (s : Shared) (H : Hp) (E : XK), (∀ a, s.heap.get? a = none → H a = none) → Room k (A.deeper (envOfC qual (defScope st) s.heap.objs.size f cdv)) → (A.deeper (envOfC qual (defScope st) s.heap.objs.size f cdv)).units + 150 < cLine →
      Takes (cxOf (L2.CX P w) P w K mg base N qual (defScope st) f cdv A outer s H E) (fun cls d _ H => E cls d H) →
      PassesOwn (model P w) (A.deeper (envOfC qual (defScope st) s.heap.objs.size f cdv)) (envOfC qual (defScope st) s.heap.objs.size f cdv) (cxOf (L2.CX P w) P w K mg base N qual (defScope st) f cdv A outer s H E).xe →
      Pess (cxOf (L2.CX P w) P w K mg base N qual (defScope st) f cdv A outer s H E) ea0 (fun cls d _ H => E cls d H) (defBody st) body) : FnM P w K mg base (k + 1) f fd ps (fnM n body) :=
  defH F S hn fun cdv A outer s H E hk hr => hb cdv A outer s H E hk hr (by have := hr.un; omega) (takes_of rfl rfl rfl rfl) (passes_of rfl)
end
/-- iter(self.f), f a locked dict -/
theorem defItD {P : Program} {w : World} {K : PySem.W.Frag} {mg : Str → Option Value} {base : Heap} {x qual fl self : Str} {st : Stmt} {f C : Addr} {fd : FuncData} {p1 p2 p3 p4 p5 : Pos} (F : Fun K x qual st f fd) (S : FnScope [self] [self] (defScope st))
    (hb : defBody st = [.Return (some (.Call (.Name "iter" p1) [.Attribute (.Name self p2) fl p3] [] p4)) p5]) (hC : Cls K C) (hno : NoAttr K C fl) (hm : mg "iter" = none)
    (hloc : (defScope st).names.lookup self = some .local) (hgl : ∀ (n : Addr) (cd : Value), (envOfC qual (defScope st) n f cd).kindOf "iter" = some .globalImplicit)
    (hat : ∀ env, attributeBase (.Name self p2) fl env (eval (.Name self p2) env) = eval (.Name self p2) env) (hst : ∀ env, starEach [.Attribute (.Name self p2) fl p3] env = (false, eval (.Attribute (.Name self p2) fl p3) env) :: starEach [] env)
    (hd : (self == ("__debug__" : Str)) = false := by decide) (hcd : (self == ("__classdict__" : Str)) = false := by decide) : FnOk P w K mg base (L2.CX P w) 1 f fd [self] (spIt C fl mkD) :=
  defItS F S hb hC hno hm hloc hgl hat hst (fun X e => call_iterD) hd hcd
def mListD (nm fl : Str) (m : Fn) (ms : Mo (List RV)) : Mo RV := mListS nm fl rdD m ms
section
variable {X : Cx} {ea : EA} {Wx : WX} {m : Fn} {k n : Nat} {f C fi flA : Addr} {fdI fdL : FuncData} {psI psL : List Str} {nm fl : Str} {e : Expr} {ms : Mo (List RV)} {pos p : Pos}
theorem pee_listD (hk : ∀ a, X.s_0.heap.get? a = none → X.H_0 a = none) (hC : X.mg nm = some (.ref C)) (hc : IterC X.K C fi flA) (FI : FnOk X.prog X.w X.K X.mg X.base (L2.CX X.prog X.w) n fi fdI psI (spIt C fl mkD)) (bI : Binds X.K fdI psI [])
    (FL : FnM X.prog X.w X.K X.mg X.base n flA fdL psL m) (hp : psL.length = 1) (bL : Binds X.K fdL psL []) (hr : Room (n + 3) X.A) (hm : X.mg "list" = none) (ha : Pea X ea Wx [e] ms) (hx : X.ex = [] := by rfl) (hg : Gl X "list" := by rfl) (hv : bootBuiltins "list" = some (.type "list") := by decide +kernel)
    (st : starEach [e] X.env = (false, eval e X.env) :: starEach [] X.env := by rfl) (npl : (backTo pos (starEach [] X.env)).any (·.1) = false := by rfl) : Pee X ea Wx (.Call (.Name "list" p) [e] [] pos) (mListD nm fl m ms) :=
  pee_listS hC rdD_ok (goodD hr.hd hx hk) ⟨hc, FI, bI, FL, hp, bL⟩ hr hm ha hg hv st npl
end
theorem dfl_empty {K : PySem.W.Frag} {mg : Str → Option Value} {E : Addr} {td : Option Addr} {n : Nat} {ts : Array (Option Value)} (e : K.lookup E = some ⟨.type "tuple", td, .seq #[] n, ts⟩) : Dfl K mg [.tup []] [.ref E] := fun io M H => by
  refine Rws.one (.tup (vs := []) (.inr ⟨⟨_, #[], n, e, rfl, rfl, Nat.zero_le _, .nil⟩, rfl⟩) rfl fun i w v h => by simp at h)
section
variable {X : Cx} {ea : EA} {Wx : WX} {m : Fn} {k n : Nat} {f C : Addr} {fd : FuncData} {ps : List Str} {x : Str} {p pos : Pos} {ds : List Value} {dw : List W} {dvs : List V}
theorem pee_make0N (hp : ps.length = n) (hC : X.mg x = some (.ref C)) (M : Mk X.K C f) (F : FnM X.prog X.w X.K X.mg X.base k f fd ps m) (hr : Room (k + 1) X.A) (hb : Binds X.K fd ps ds) (hd : Vals dvs ds) (hw : Dfl X.K X.mg dw dvs) (tk : Takes X Wx) (hg : Gl X x := by rfl)
    (hdb : (x == ("__debug__" : Str)) = false := by decide) : Pee X ea Wx (.Call (.Name x p) [] [] pos) (mMake x n m dw mNil) := by
  subst hp
  exact pee_make0 hC M F hr hb hd hw tk hg hdb
end
end Z

set_option linter.all false
set_option Elab.async false
set_option maxRecDepth 100000
/-! Z36: dict comprehensions and locked dicts evaluated. -/
namespace Z
open PySem PySem.Spec PyProof.Rows L2
section
variable {r : List SV} {G : List Cell} {s : S} {m mk mv : Mo RV} {ms : Mo (List RV)} {mi : Mo Wk} {t : W → Mo Unit} {tt : Mo Bool} {body : MB} {ow vs : List Nat} {acc : KVs} {k : Wk} {w : W} {kvs : KVs}
@[simp] theorem mIterD_e : mIterD m ⟨r, G⟩ = bnd m (fun x => bnd (look (settle x)) fun w => match w with
  | .dF kvs => Z.ret ⟨kvs.map fun p => keyW p.1, none⟩
  | _ => stk) ⟨r, G⟩ := rfl
@[simp] theorem mDcF_e : mDcF ow vs mi t tt body ⟨r, G⟩ = bnd mi (fun k s => match clL vs t tt body k k.ws [] (wipeS ow s) with
  | some (kvs, s') => some (.ok (.val (.dF kvs)), wipeS ow s')
  | none => none) ⟨r, G⟩ := rfl
@[simp] theorem clM_e : clM vs mi t tt body acc ⟨r, G⟩ = match mi ⟨r, G⟩ with
  | some (.ok k, s1) => clL vs t tt body k k.ws acc (wipeS vs s1)
  | _ => none := rfl
@[simp] theorem putD_e : putD mk mv acc ⟨r, G⟩ = match (bnd mk fun x => freeze (settle x)) ⟨r, G⟩ with
  | some (.ok kw, s1) => match (bnd mv fun x => freeze (settle x)) s1 with
    | some (.ok vw, s2) => match tkOf kw with
      | some ks => if acc.length < sz then some (putW acc ks vw, s2) else none
      | none => none
    | _ => none
  | _ => none := rfl
@[simp] theorem deref_dF : derefW s (.dF kvs) = some (.dF kvs) := rfl
@[simp] theorem look_dF : look (.val (.dF kvs)) ⟨r, G⟩ = some (.ok (.dF kvs), ⟨r, G⟩) := rfl
@[simp] theorem mListD_e {nm fl : Str} {f : Fn} : mListD nm fl f ms ⟨r, G⟩ = bnd ms (fun xs => bnd (freezeAll xs) fun ws => listO nm fl rdD f ws) ⟨r, G⟩ := rfl
@[simp] theorem fLenD_e : fLenD [.dF kvs] = some (.imm (.int (kvs.length : Nat))) := rfl
@[simp] theorem rdD_e : rdD (.dF kvs) = if kvs.length ≤ sz then some (kvs.map fun p => keyW p.1) else none := rfl
theorem putW_len {ks : List Key} : (putW acc ks w).length ≤ acc.length + 1 := by
  unfold putW
  split <;> simp
variable {γ : Type} {e : γ → W}
theorem cl_fold (hk : k.ok s) (p : γ → Bool) (g : γ → KVs → KVs) (c : Nat) (hg : ∀ x acc, (g x acc).length ≤ acc.length + c) : ∀ (xs : List γ) (acc : KVs),
    (∀ x ∈ xs, ∀ acc : KVs, acc.length + c ≤ sz → ∃ s1, (bnd (t (e x)) fun _ => tt) s = some (.ok (p x), s1) ∧ (p x = true → ∃ s2, body acc s1 = some (g x acc, s2) ∧ wipeS vs s2 = s) ∧ (p x = false → wipeS vs s1 = s)) →
    acc.length + c * xs.length ≤ sz → clL vs t tt body k (xs.map e) acc s = some ((xs.filter p).foldl (fun a x => g x a) acc, s)
  | [], acc, _, _ => by
    unfold clL
    exact if_pos hk
  | x :: xs, acc, h, z => by
    rw [List.length_cons, Nat.mul_succ] at z
    obtain ⟨s1, e1, yes, no⟩ := h x (List.mem_cons_self ..) acc (by omega)
    have rest := fun a => cl_fold hk p g c hg xs a fun y hy => h y (List.mem_cons_of_mem _ hy)
    rw [List.map_cons]
    unfold clL
    rw [if_pos hk, e1]
    cases b : p x with
    | true =>
      obtain ⟨s2, e2, e3⟩ := yes b
      simp only [e2, e3]
      rw [rest _ (by have := hg x acc; omega), List.filter_cons_of_pos b, List.foldl_cons]
    | false =>
      simp only [no b]
      rw [rest _ (by omega), List.filter_cons_of_neg (by simp [b])]
end
/-! ### keys that are whole numbers -/
def kT (t : List Int) : List Key := t.map Sum.inl
def rowsD (ts : List (List Int)) : KVs := ts.map fun t => (kT t, .bl true)
theorem kT_inj {a b : List Int} : kT a = kT b ↔ a = b := by
  constructor
  · intro h
    unfold kT at h
    induction a generalizing b with
    | nil => cases b with
      | nil => rfl
      | cons y b => simp at h
    | cons x a ih => cases b with
      | nil => simp at h
      | cons y b =>
        rw [List.map_cons, List.map_cons, List.cons.injEq] at h
        rw [Sum.inl.inj h.1, ih h.2]
  · rintro rfl
    rfl
@[simp] theorem kW_kT (t : List Int) : (kT t).map kW = t.map W.int := by
  unfold kT
  rw [List.map_map]
  rfl
theorem keysOf_ints : ∀ t : List Int, keysOf (t.map W.int) = some (kT t)
  | [] => rfl
  | x :: t => by
    rw [List.map_cons]
    unfold keysOf
    rw [keysOf_ints t]
    rfl
theorem tkOf_ints {t : List Int} (h : t ≠ []) : tkOf (.tup (t.map W.int)) = some (kT t) := by
  cases t with
  | nil => exact absurd rfl h
  | cons x t =>
    rw [List.map_cons]
    unfold tkOf
    exact keysOf_ints (x :: t)
theorem valW_rows (ts : List (List Int)) (t : List Int) : (valW (rowsD ts) (kT t)).isSome = decide (t ∈ ts) := by
  unfold valW rowsD
  rw [Option.isSome_map, Bool.eq_iff_iff, List.find?_isSome]
  simp only [List.mem_map, decide_eq_true_eq]
  constructor
  · rintro ⟨_, ⟨a, m, rfl⟩, e⟩
    rw [← kT_inj.mp e]
    exact m
  · exact fun m => ⟨_, ⟨t, m, rfl⟩, rfl⟩
theorem fIn_rows (neg : Bool) (ts : List (List Int)) {t : List Int} (h : t ≠ []) : fIn neg (.tup (t.map W.int)) (.dF (rowsD ts)) = some (.imm (.bl (decide (t ∈ ts) != neg))) := by
  have : fIn neg (.tup (t.map W.int)) (.dF (rowsD ts)) = fInD neg (.tup (t.map W.int)) (.dF (rowsD ts)) := by
    cases neg <;> rfl
  rw [this]
  show ((tkOf (.tup (t.map W.int))).map fun k => valW (rowsD ts) k).map (fun r => OR.imm (.bl (r.isSome != neg))) = _
  rw [tkOf_ints h]
  simp [valW_rows]
def addT (ts : List (List Int)) (t : List Int) : List (List Int) := if t ∈ ts then ts else ts ++ [t]
theorem putW_rows (ts : List (List Int)) (t : List Int) : putW (rowsD ts) (kT t) (.bl true) = rowsD (addT ts t) := by
  unfold putW addT
  have any : ((rowsD ts).any fun kv => decide (kv.1 = kT t)) = decide (t ∈ ts) := by
    unfold rowsD
    rw [List.any_map, Bool.eq_iff_iff]
    simp [kT_inj]
  rw [any]
  by_cases h : t ∈ ts
  · simp only [h, decide_true, if_true]
    unfold rowsD
    rw [List.map_map]
    refine List.map_congr_left fun x _ => ?_
    simp only [Function.comp]
    split
    · rename_i q
      rw [q]
    · rfl
  · simp only [h, decide_false, if_false]
    unfold rowsD
    simp
theorem fold_rows : ∀ (xs ts : List (List Int)), xs.foldl (fun a t => putW a (kT t) (.bl true)) (rowsD ts) = rowsD (xs.foldl addT ts)
  | [], ts => rfl
  | x :: xs, ts => by
    rw [List.foldl_cons, putW_rows, fold_rows xs, List.foldl_cons]
theorem addT_mem {ts : List (List Int)} {t u : List Int} : u ∈ addT ts t ↔ u ∈ ts ∨ u = t := by
  unfold addT
  split
  · rename_i h
    exact ⟨.inl, fun z => z.elim id fun q => q ▸ h⟩
  · simp
theorem fold_mem : ∀ (xs ts : List (List Int)) (u : List Int), u ∈ xs.foldl addT ts ↔ u ∈ ts ∨ u ∈ xs
  | [], ts, u => by simp
  | x :: xs, ts, u => by
    rw [List.foldl_cons, fold_mem xs, addT_mem, List.mem_cons, or_assoc]
theorem fold_new : ∀ (xs ts : List (List Int)), xs.Nodup → (∀ x ∈ xs, x ∉ ts) → xs.foldl addT ts = ts ++ xs
  | [], ts, _, _ => by simp
  | x :: xs, ts, nd, h => by
    have nx := h x (List.mem_cons_self ..)
    rw [List.foldl_cons, show addT ts x = ts ++ [x] from if_neg nx, fold_new xs _ (List.nodup_cons.mp nd).2 fun y hy z => ?_, List.append_assoc]
    · rfl
    · rcases List.mem_append.mp z with z | z
      · exact h y (List.mem_cons_of_mem _ hy) z
      · rw [List.mem_singleton.mp z] at hy
        exact (List.nodup_cons.mp nd).1 hy
theorem fold_length (xs ts : List (List Int)) : (xs.foldl addT ts).length ≤ ts.length + xs.length := by
  induction xs generalizing ts with
  | nil => exact Nat.le_refl _
  | cons x xs ih =>
    rw [List.foldl_cons, List.length_cons]
    have := ih (addT ts x)
    have h2 : (addT ts x).length ≤ ts.length + 1 := by
      unfold addT
      split <;> simp
    omega
theorem trues_rows (ts : List (List Int)) : trues (rowsD ts) = true := by
  unfold trues rowsD
  rw [List.all_map]
  exact List.all_eq_true.mpr fun _ _ => rfl
theorem fEqF_rows (a b : List (List Int)) : fEqF (.dF (rowsD a)) (.dF (rowsD b)) = some (.imm (.bl (a.length == b.length && a.all fun t => decide (t ∈ b)))) := by
  show (if trues (rowsD a) ∧ trues (rowsD b) then some (OR.imm (.bl (sameKs ((rowsD a).map (·.1)) ((rowsD b).map (·.1))))) else none) = _
  rw [if_pos ⟨trues_rows a, trues_rows b⟩]
  unfold sameKs
  have e : ∀ c : List (List Int), (rowsD c).map (·.1) = c.map kT := fun c => by
    unfold rowsD
    rw [List.map_map]
    rfl
  have two : ∀ t : List Int, ((b.map kT).any fun q => decide (q = kT t)) = decide (t ∈ b) := fun t => by
    rw [List.any_map, Bool.eq_iff_iff]
    simp [kT_inj]
  rw [e, e, List.length_map, List.length_map, List.all_map]
  simp only [Function.comp_def, two]
theorem rowsD_keys (ts : List (List Int)) : (rowsD ts).map (fun p => keyW p.1) = ts.map fun t => W.tup (t.map W.int) := by
  unfold rowsD keyW
  rw [List.map_map]
  simp [Function.comp_def]
@[simp] theorem rowsD_length (ts : List (List Int)) : (rowsD ts).length = ts.length := List.length_map ..
end Z

set_option linter.all false
set_option Elab.async false
set_option maxRecDepth 100000
/-! Z37: list of a locked dict; own |= and -= of shared instances. -/
namespace Z
open PySem PySem.Spec PyProof.Rows L2
/-- list(d), d a locked dict -/
def mListK (ms : Mo (List RV)) : Mo RV := bnd ms fun xs => bnd (lookAll xs) fun ws => match ws with
  | [.dF kvs] => ret (.own (.lst (kvs.map fun p => keyW p.1)))
  | _ => stk
section
variable {K : PySem.W.Frag} {mg : Str → Option Value} {ea : EA} {Wx : WX} {io : List Addr} {Fr : Addr → Prop} {s s' : S} {σ : L2.St} {H : Hp}
theorem keys_rw {kvs : List (List Key × W)} {av : List (List Key × V)} {bs : List Addr} (S0 : Sim K mg ea io Fr s σ H) (r : Rkv K mg io (Ms io Fr s σ) H kvs av) (k : IsKeys H av bs) : Rws K mg io (Ms io Fr s σ) H (kvs.map fun p => keyW p.1) (bs.map V.ref) := by
  have l1 : kvs.length = av.length := r.length
  have l2 : av.length = bs.length := Paired.length k
  refine ⟨by simp [l1, l2], fun i w v h1 h2 => ?_⟩
  rw [List.getElem?_map] at h1 h2
  cases e1 : kvs[i]? with
  | none => rw [e1] at h1; cases h1
  | some y =>
    cases e2 : bs[i]? with
    | none => rw [e2] at h2; cases h2
    | some b =>
      rw [e1] at h1
      rw [e2] at h2
      cases h1
      cases h2
      have il := get_lt e1
      have ia : i < av.length := by omega
      have kk : (kvs.map (·.1))[i]? = (av.map (·.1))[i]? := by rw [r.1]
      rw [List.getElem?_map, List.getElem?_map, e1, List.getElem?_eq_getElem ia] at kk
      have kk : y.1 = av[i].1 := Option.some.inj kk
      have lay : H b = some (.tup (av[i].1.map kV)) := paired_at k (List.getElem?_eq_getElem ia) e2
      rw [← kk] at lay
      exact rw_keyW lay fun z => by
        obtain ⟨o, ho, hno⟩ := S0.trkN z
        exact Nt.of ho hno _ lay
theorem ref_listK {ta : TA} {ms : Mo (List RV)} (ha : RefA K mg ea Wx ta ms) :
    RefE K mg ea Wx (tCB (fun xs H Q => ∃ d kvs, xs = [V.ref d] ∧ Rd H d (.dT kvs) ∧ ∀ p bs, H p = none → IsKeys H kvs bs → Q (.ref p) (upd H p (.lst (bs.map V.ref)))) ta) (mListK ms) := by
  intro σ H io Fr s S0 r0 s' e Q hok hex
  refine arg2 ha S0 e hex fun xs vs s1 H1 io1 e2 px R1 => ?_
  rcases bnd_some e2 with ⟨x, e3, rfl⟩ | ⟨ws, s2, e3, e4⟩
  · obtain ⟨_, _, q, _⟩ := lookAll_ok px.1 R1 e3
    cases q
  · obtain ⟨rfl, ws', q, r2⟩ := lookAll_ok px.1 R1 e3
    cases q
    split at e4
    · rename_i kvs
      cases e4
      obtain ⟨v, rfl, r⟩ := p1 r2
      obtain ⟨d, ob, av, rfl, hd, _, rr⟩ := r.dF
      refine ⟨d, av, rfl, .inr ⟨ob, hd⟩, fun p bs hp hk => ?_⟩
      exact OQ.post (z := .newl (kvs.map fun p : List Key × W => keyW p.1)) px.1 px.2 (fun v H3 io3 q => hok _ rfl v H3 io3 q) p (bs.map V.ref) hp (keys_rw px.1 rr hk)
    · cases e4
end
section
variable {X : Cx} {ea : EA} {Wx : WX} {e : Expr} {es : List Expr} {ms : Mo (List RV)} {pos p : Pos}
theorem pee_listK (hm : X.mg "list" = none) (ha : Pea X ea Wx (e :: es) ms) (hc : X.calm = true := by rfl) (hg : Gl X "list" := by rfl) (hv : bootBuiltins "list" = some (.type "list") := by decide +kernel)
    (he : starEach (e :: es) X.env = (false, eval e X.env) :: starEach es X.env := by rfl) (hpl : (backTo pos (starEach es X.env)).any (·.1) = false := by rfl) : Pee X ea Wx (.Call (.Name "list" p) (e :: es) [] pos) (mListK ms) :=
  let ⟨_, q, r⟩ := ha.ex; ⟨_, pe_callTy (call_list_dT hc) hg hm hv q (by decide) (by decide) he hpl, ref_listK r⟩
end
/-! ### own |= and -= -/
section
variable {X : Cx} {ea : EA} {Wx : WX} {m : Fn} {k n : Nat} {f C : Addr} {fd : FuncData} {ps : List Str} {nm : Str} {e : Expr} {me : Mo RV} {pos pos' : Pos}
def mAugO (i : Nat) (nm : Str) (m : Fn) (me : Mo RV) : Mo Fl := mAsg i (mBinS (fun x y => quiet (mOwn2 nm [.own nm] m x y)) (mName i) me)
/-- both operands are instances; what the call asks -/
theorem own2_use {io : List Addr} {Fr : Addr → Prop} {s s' : S} {σ : L2.St} {H : Hp} {x y : RV} {vx vy : V} {r0 : Except Ex RV} (hC : X.mg nm = some (.ref C)) (ic : C8.InsC X.K C) (hn : PySem.W.notFirst X.K C (.ref C) = true)
    (S0 : Sim X.K X.mg ea io Fr s σ H) (rx : RvR X.K X.mg io (Ms io Fr s σ) σ H x vx) (ry : RvR X.K X.mg io (Ms io Fr s σ) σ H y vy) (e : mOwn2 nm [.own nm] m x y s = some (r0, s')) :
    ∃ a dx fs b dy gs, vx = .ref a ∧ H a = some (.ins C dx fs) ∧ vy = .ref b ∧ H b = some (.ins C dy gs) ∧ ∀ (Wx : WX) (Q : VK), (∀ z, r0 = .ok z → ∀ v H' io', PostE X.K X.mg ea io Fr s σ H s' io' H' z v → Q v H') →
      (∀ z, r0 = .error z → ∀ cls d H' io', PostX X.K X.mg ea io Fr s σ H s' σ io' H' z cls d → Wx cls d σ H') → spM X.K X.mg 2 m [vx, vy] H Q (WE Wx σ) := by
  have NT : NfTab X.K X.mg C [.own nm] := NfTab.own hC ic hn NfTab.nil
  rcases bnd_some e with ⟨z, e3, _⟩ | ⟨ws, s2, e3, e4⟩
  · obtain ⟨_, _, _, _, q, _⟩ := freezeAll_ok S0 (.cons rx (.cons ry .nil)) e3
    cases q
  obtain ⟨_, m2, S2, ws', q, r2⟩ := freezeAll_ok S0 (.cons rx (.cons ry .nil)) e3
  cases q
  rcases bnd_some e4 with ⟨z, e5, _⟩ | ⟨_, s3, e5, e6⟩
  · obtain ⟨_, q, _⟩ := chkO_ok S2 hC NT r2 e5
    cases q
  have T2 : Stp io (Ms io Fr s σ) Fr H io (Ms io Fr s2 σ) H := Stp.refl.less m2
  unfold chkO at e5
  split at e5
  · rename_i wx wy
    split at e5
    · rename_i nm' fs ct hd hd2
      split at e5
      · rename_i hcc
        obtain ⟨rfl, hin⟩ := hcc
        obtain rfl := List.mem_singleton.mp hin
        cases e5
        obtain ⟨v1, rr, h0, h1, h2⟩ := r2.cons_inv
        cases h0
        obtain ⟨v2, rr2, h0, h3, h4⟩ := h2.cons_inv
        cases h0
        obtain ⟨a, C', dx, us, hva, hm, hH, rk⟩ := (deref_ok S2 h1 hd).obj
        rw [hC] at hm
        cases hm
        obtain ⟨wyy, k1, k2⟩ := Option.bind_eq_some_iff.mp hd2
        cases wyy <;> simp [tyOfW] at k2
        subst k2
        obtain ⟨b, C', dy, gs, hvb, hm, hH2, rk2⟩ := (deref_ok S2 h3 k1).obj
        rw [hC] at hm
        cases hm
        exact ⟨a, dx, us, b, dy, gs, hva, hH, hvb, hH2, fun Wx Q ok ex => spM_use (n := 2) S2 r2 rfl e6 (fun x q v H' io' p => ok x q v H' io' (p.trans T2)) fun x q cls d H' io' p => ex x q cls d H' io' ⟨p.1, T2.trans p.2.1, p.2.2⟩⟩
      · cases e5
    · cases e5
  · cases e5
theorem pes_augO {op : Operator} (i : Nat) {x : Str} (hN : X.N.Nodup) (hi : X.N[i]? = some x) (hC : X.mg nm = some (.ref C)) (F : FnM X.prog X.w X.K X.mg X.base k f fd ps m) (hp : ps.length = 2) (hr : Room k X.A) (hb : Binds X.K fd ps []) (hc : PySem.W.selfFirst X.K C = true) (ic : C8.InsC X.K C)
    (hs : PySem.W.findIn X.K (.ref C) (PySem.dunderI op.info.2) = some (some (.ref f))) (hf : PySem.W.isFn X.K (.ref f) = true) (hn : PySem.W.notFirst X.K C (.ref C) = true) (he : Pee X ea Wx e me) (hx : Loc X.env.scope x := by first | exact Or.inl rfl | exact Or.inr rfl)
    (hfn : X.fn x = true ∨ X.env.scope.names.lookup x = some .local := by first | exact .inl rfl | exact .inr rfl) : Pes X ea Wx (.AugAssign (.Name x pos') op e pos) (mAugO i nm m me) := by
  let t : TIp := fun x y H Q => ∃ a dx fs b dy gs, x = .ref a ∧ H a = some (.ins C dx fs) ∧ y = .ref b ∧ H b = some (.ins C dy gs) ∧ ∀ σ, spM X.K X.mg ps.length m [x, y] H Q (WE (fun _ _ _ _ => False) σ)
  have P : PIp X op t := by
    intro pins s σ H x y v u Q I rx ry h
    obtain ⟨a, dx, fs, b, dy, gs, rfl, ha, rfl, hb2, q⟩ := h
    cases rx
    cases ry
    obtain ⟨oA, od, J⟩ := inst_of I ha
    obtain ⟨m0, hF⟩ := I.fr
    refine PySem.W.ksp_inplace hF I.ok.mod.kin J hc hs hf ?_
    exact wpAny_mono (run_fnSub ⟨hr, rfl⟩ F hb takes0 I (.cons (show RelV (V.ref a) (Value.ref a) from rfl) (.cons (show RelV (V.ref b) (Value.ref b) from rfl) .nil)) (q σ)) (fun v s' h => back_of h) fun _ _ x => x
  obtain ⟨te, q, rr⟩ := he.ex
  refine ⟨_, ps_aug hN hi hx q P hfn, ref_asg i (ref_opS (r := fun _ => t) (ref_name i) rr ?_)⟩
  intro σ H io Fr s S0 x y vx vy rx ry r0 s' e Q hok hex
  unfold quiet at e
  split at e
  · rename_i z s2 e2
    cases e
    obtain ⟨a, dx, fs, b, dy, gs, rfl, h1, rfl, h2, h3⟩ := own2_use hC ic hn S0 rx ry e2
    refine ⟨a, dx, fs, b, dy, gs, rfl, h1, rfl, h2, fun σ' => ?_⟩
    rw [hp]
    exact h3 (fun _ _ _ _ => False) Q hok (fun z q => by cases q)
  · cases e
end
section
variable {r : List SV} {G : List Cell} {ms : Mo (List RV)} {i : Nat} {nm : Str} {m : Fn} {me : Mo RV}
@[simp] theorem mListK_e : mListK ms ⟨r, G⟩ = bnd ms (fun xs => bnd (lookAll xs) fun ws => match ws with
  | [.dF kvs] => ret (.own (.lst (kvs.map fun p => keyW p.1)))
  | _ => stk) ⟨r, G⟩ := rfl
@[simp] theorem mAugO_e : mAugO i nm m me ⟨r, G⟩ = mAsg i (mBinS (fun x y => quiet (mOwn2 nm [.own nm] m x y)) (mName i) me) ⟨r, G⟩ := rfl
end
end Z

set_option linter.all false
set_option Elab.async false
set_option maxRecDepth 100000
/-! Z38: for x in o, o an own instance over a locked dict. -/
namespace Z
open PySem PySem.Spec PyProof.Rows L2
section
variable {P : Program} {w : World} {H : Hp} {h : Heap} {it a b : Addr} {φ : Heap → Prop}
theorem below_tup {t : List V} (e : upd H it (.ext φ) b = some (.tup t)) : H b = some (.tup t) := by
  by_cases z : b = it
  · rw [z, upd_same] at e; cases e
  · rwa [upd_ne z] at e
theorem objOk_drop : ∀ {o : HO}, ObjOk P w (upd H it (.ext φ)) h a o → ObjOk P w H h a o
  | .lst _, x => x
  | .tup _, x => x
  | .dK _, x => x
  | .dT _, ⟨l, n, xs, pr, r⟩ => ⟨l, n, xs, L2.Paired.mapP pr fun _ _ k => ⟨k.1, below_tup k.2.1, k.2.2⟩, r⟩
  | .set _ _, x => x
  | .ins C dx fs, ⟨e, r⟩ => ⟨by
      by_cases z : dx = it
      · rw [z, upd_same] at e; cases e
      · rwa [upd_ne z] at e, r⟩
  | .own _, x => x
  | .xd _, x => x
  | .rng _ _, x => x
  | .frz _ _, ⟨e, x⟩ => ⟨e, objOk_drop x⟩
  | .tbl _, x => x
  | .met _ _, x => x
  | .ext _, x => x
theorem below_none (e : upd H it (.ext φ) b = none) : H b = none ∧ b ≠ it := by
  by_cases z : b = it
  · rw [z, upd_same] at e; cases e
  · rw [upd_ne z] at e; exact ⟨e, z⟩
theorem un_drop {fs ex : List Addr} {H0 : Hp} {h0 : Heap} (u : Un fs ex H0 (upd H it (.ext φ)) h0 h) : Un fs ex H0 H h0 h where
  keep := u.keep
  slot := u.slot
  free := fun b o e n x => (below_none (u.free b o e n x)).1
  there := u.there
  tups := fun b xs e => below_tup (u.tups b xs e)
  frzs := fun b o v e => by
    have k := u.frzs b o v e
    by_cases z : b = it
    · rw [z, upd_same] at k; cases k
    · rwa [upd_ne z] at k
  tbls := fun b ps e => by
    obtain ⟨more, k⟩ := u.tbls b ps e
    refine ⟨more, ?_⟩
    by_cases z : b = it
    · rw [z, upd_same] at k; cases k
    · rwa [upd_ne z] at k
end
section
variable {X : Cx} {pins : List (Addr × Obj)} {σ : L2.St} {H : Hp} {s : Shared} {it : Addr} {φ : Heap → Prop}
theorem inv_drop (I : Inv X pins σ (upd H it (.ext φ)) s) (n : H it = none) : Inv X pins σ H s where
  ok := I.ok
  os := I.os
  bare := I.bare
  base := un_drop I.base
  loc := I.loc
  cell := I.cell
  free := (below_none I.free).1
  freeC := fun x c e => (below_none (I.freeC x c e)).1
  pin := fun p m => let ⟨a, b, r⟩ := I.pin p m; ⟨a, (below_none b).1, r⟩
  hok := fun a o e => by
    have z : a ≠ it := fun z => by rw [z, n] at e; cases e
    exact objOk_drop (I.hok a o (by rw [upd_ne z]; exact e))
  len := I.len
end
/-- iter(x) of a locked dict: the iterator is younger than the frame's entry -/
theorem call_iterN {X : Cx} : CallR X (.builtin "iter") fun xs H Q => ∃ d ob av, xs = [.ref d] ∧ H d = some (.frz ob (.dT av)) ∧ ∀ it, H it = none → X.s_0.heap.objs.size ≤ it → Q (.ref it) (upd H it ((srcD d ob av).at it 0)) := by
  rintro pins s σ H _ _ Q I r ⟨d, ob, av, rfl, ok, q⟩
  cases Vals.ref1 r
  obtain ⟨no, g, ex, es, ep, data, size, _⟩ := dict_at I ok
  refine iter_of fun up => wpAny_pyIter_dict_raw no ⟨ob, g, ex, data⟩ (up _ _ ?_)
  let o : Obj := { cls := .type "dict_keyiterator", data := .fields #[.ref d, .int 0 0, .int es.size 0, .int ep 0] }
  have here : (s.heap.push o).get? s.heap.objs.size = some o := Heap.get?_push_size s.heap rfl
  exact ⟨.ref _, _, I.laid (t' := s.toks) (fun _ _ e => Heap.get?_push_of_some _ e) (Nat.le_refl _) (srcD_ok ⟨es, ep, data, size, _, here, rfl, rfl⟩), rfl, q _ (I.hok.fresh (Nat.le_refl _)) I.sz⟩
/-- a def that gives iter(self.fl), with the iterator's age told -/
structure FnIt (P : Program) (w : World) (K : PySem.W.Frag) (mg : Str → Option Value) (base : Heap) (f : Addr) (fd : FuncData) (ps : List Str) (C : Addr) (fl : Str) : Prop where
  run : ∀ (A : Around) (outer : List Env) (s : Shared) (H : Hp) (args : Args) (us : List Value) (a : Addr) (Q : VK), Room 1 A → Env0 P w K mg base A outer s H → BindsTo s fd args (ps.zip us) → Vals [.ref a] us →
    (∃ dx fs d ob av, H a = some (.ins C dx fs) ∧ fs.lookup fl = some (.ref d) ∧ H d = some (.frz ob (.dT av)) ∧ ∀ it, H it = none → s.heap.objs.size ≤ it → Q (.ref it) (upd H it ((srcD d ob av).at it 0))) →
    codeAny (model P w) A (.call (.ref f) args) (CR (L2.CX P w) outer P w H s Q E0) s
theorem defItN {P : Program} {w : World} {K : PySem.W.Frag} {mg : Str → Option Value} {base : Heap} {x qual fl self : Str} {st : Stmt} {f C : Addr} {fd : FuncData} {p1 p2 p3 p4 p5 : Pos} (F : Fun K x qual st f fd) (S : FnScope [self] [self] (defScope st))
    (hb : defBody st = [.Return (some (.Call (.Name "iter" p1) [.Attribute (.Name self p2) fl p3] [] p4)) p5]) (hC : Cls K C) (hno : NoAttr K C fl) (hm : mg "iter" = none)
    (hloc : (defScope st).names.lookup self = some .local) (hgl : ∀ (n : Addr) (cd : Value), (envOfC qual (defScope st) n f cd).kindOf "iter" = some .globalImplicit)
    (hat : ∀ env, attributeBase (.Name self p2) fl env (eval (.Name self p2) env) = eval (.Name self p2) env) (hst : ∀ env, starEach [.Attribute (.Name self p2) fl p3] env = (false, eval (.Attribute (.Name self p2) fl p3) env) :: starEach [] env)
    (hd : (self == ("__debug__" : Str)) = false := by decide) (hcd : (self == ("__classdict__" : Str)) = false := by decide) : FnIt P w K mg base f fd [self] C fl := by
  refine ⟨fun A outer s H args us a Q room e0 bt rv sp => ?_⟩
  obtain ⟨_, _, _, _, _, _, cdv, _, _, rfl, lk, hcode⟩ := F.ex
  have born : ∀ b o, base.get? b = some o → s.heap.get? b = some o := fun b o e => (e0.bs b o e).1
  have kin := e0.mod.kin.keeps born
  refine codeAny_call_function room.depth (kin _ _ lk) rfl S.co S.gen rfl (PySem.W.codeRec_of kin hcode) (bt _ _ _ _ (wpAny_newFunctionEnv_cells S.kind (par_lives S) ?_))
  rintro _ rfl s1 z
  let X := cxOf (L2.CX P w) P w K mg base [self] qual (defScope st) f cdv A outer s H E0
  have me : PE X (.Name self p2) (tVar 0) := pe_var rfl (.inl hloc) hd hcd
  have call := pe_callB (X := X) (p := p1) (pos := p4) (x := "iter") call_iterN (hgl _ _) hm (by decide +kernel) (pa_cons (pe_fld (f := fl) (pos := p3) me (hat _)) pa_nil (hst _)) (by decide) (by decide) (hst _) rfl
  have body := pss_one (ps_ret (pos := p5) call)
  rw [← hb] at body
  obtain ⟨dx, fs, d, ob, av, ha, hl, hd', q⟩ := sp
  refine ⟨(e0.mod.nolimit.keeps born).keeps z.toInCall.keep, codeAny_func (wpAny_mono (body.run [] s1 _ H { nx := fun _ H' => Q .non H', rt := Q } (inv_start S room.hd e0 rfl rv z) ⟨.ref a, rfl, a, C, dx, fs, .ref d, rfl, ha, hC, hno, hl, d, ob, av, rfl, hd', fun it n old => q it n old⟩) (fun fl s' h => ?_) fun _ _ h => h)⟩
  have out := body_end rfl rfl h
  cases fl <;> exact out
def iOwnD (C : Addr) (fl : Str) (te : TE) : TI := fun σ H R => te σ H fun x H1 => ∃ a dx fs d ob av, x = .ref a ∧ H1 a = some (.ins C dx fs) ∧ fs.lookup fl = some (.ref d) ∧ H1 d = some (.frz ob (.dT av)) ∧ R (Itkt d ob av) H1
def fldD (nm fl : Str) : W → Option (List (List Key × W))
  | .obj nm' fs => if nm' = nm then (match fs.lookup fl with
    | some (.dF kvs) => some kvs
    | _ => none) else none
  | _ => none
def mIterO (nm fl : Str) (m : Mo RV) : Mo Wk := bnd m fun x => bnd (look (settle x)) fun w => match fldD nm fl w with
  | some kvs => ret ⟨kvs.map fun p => keyW p.1, none⟩
  | none => stk
section
variable {X : Cx} {ea : EA} {Wx : WX} {fi C : Addr} {fdI : FuncData} {psI : List Str} {nm fl : Str} {e tg : Expr} {te : TE} {me : Mo RV}
theorem call_got {pins : List (Addr × Obj)} {σ : L2.St} {H : Hp} {s : Shared} {Q : VK} {us : List Value} {A1 : Around} {f : Addr} (I : Inv X pins σ H s) (h : codeAny (model X.prog X.w) A1 (.call (.ref f) ⟨us, []⟩) (CR (L2.CX X.prog X.w) X.stack X.prog X.w H s Q E0) s) :
    wpAny (model X.prog X.w) A1 (call (.ref f) us) (fun u s' => ∃ v H', Inv X pins σ H' s' ∧ RelV v u ∧ Q v H') (fun _ _ => False) s := by
  refine wpAny_call (codeAny_mono h ?_)
  rintro (er | (_ | _ | _ | u)) s' q
  · obtain ⟨_, _, _, _, _, _, _, _, _, _, _, _, z⟩ := q
    exact z
  · exact q.elim
  · exact q.elim
  · exact q.elim
  · obtain ⟨v, H', J, rv, z⟩ := I.after (Q := Q) q
    exact ⟨v, H', J, rv, z⟩
theorem pi_ownD (hit : PySem.W.findIn X.K (.ref C) "__iter__" = some (some (.ref fi))) (hf : PySem.W.isFn X.K (.ref fi) = true) (FI : FnIt X.prog X.w X.K X.mg X.base fi fdI psI C fl) (bI : Binds X.K fdI psI []) (hp : psI.length = 1) (hr : Room 1 X.A) (he : PE X e te) : PI X tg e (iOwnD C fl te) := by
  refine ⟨fun pins s σ H R I h => thn (he.run pins s σ H _ I h) fun u s1 ⟨x, H1, I1, rx, hq⟩ => ?_⟩
  obtain ⟨a, dx, fs, d, ob, av, rfl, ha, hfl, hd, r⟩ := hq
  obtain rfl : u = Value.ref a := rx
  have self : Vals [V.ref a] [Value.ref a] := .cons rfl .nil
  obtain ⟨_, _, J⟩ := inst_of I1 ha
  obtain ⟨_, fr⟩ := I1.fr
  have go := FI.run X.A X.stack s1 H1 ⟨[.ref a], []⟩ [.ref a] a (fun v H' => ∃ it, v = .ref it ∧ H1 it = none ∧ s1.heap.objs.size ≤ it ∧ H' = upd H1 it ((srcD d ob av).at it 0)) hr (Sub.env0 ⟨hr, rfl⟩ I1) (binds0 (n := 0) bI I1 (by rw [hp]; rfl)) self ⟨dx, fs, d, ob, av, ha, hfl, hd, fun it z y => ⟨it, rfl, z, y, rfl⟩⟩
  refine PySem.W.owit_iter fr I1.ok.mod.kin J hit hf (wpAny_mono (call_got I1 go) ?_ fun _ _ z => z.elim)
  rintro _ s2 ⟨_, _, I2, r2, it, rfl, hn, old, rfl⟩
  cases r2
  obtain ⟨es, ep, data, size, z⟩ := (I2.hok it _ upd_same).1
  have I3 : Inv X pins σ H1 s2 := inv_drop I2 hn
  unfold PySem.W.OwitIt
  refine wpAny_specialOf (name := Str.ofString "__next__") z.typeIs PySem.F.slot_dict_keyiterator_next.lookup ?_
  refine ⟨it, [it], _, Itkt d ob av, H1, rfl, I3, turn_keysT it data, ?_, fun b hb => ?_, r⟩
  · rw [← size]
    exact z
  · obtain rfl := List.mem_singleton.mp hb
    have old : FpOk X pins H1 b := I1.fpOk old hn
    exact ⟨hn, old.2.1, old.2.2.1, old.2.2.2.1, old.2.2.2.2.1, fun p hp => (below_none (I2.pin p hp).2.1).2⟩
theorem ref_iterO {K : PySem.W.Frag} {mg : Str → Option Value} (hC : mg nm = some (.ref C)) (h : RefE K mg ea Wx te me) : RefI K mg ea Wx (iOwnD C fl te) (mIterO nm fl me) := by
  intro σ H io Fr s S0 r0 s' e R hok hex
  refine one2 h S0 e hex fun x v s1 H1 io1 e2 px => ?_
  obtain ⟨S1, T1, R1⟩ := px.settled
  rcases bnd_some e2 with ⟨z, e3, rfl⟩ | ⟨w, s3, e3, e4⟩
  · obtain ⟨_, _, q, _⟩ := look_ok S1 R1 e3
    cases q
  · obtain ⟨rfl, w', q, r2⟩ := look_ok S1 R1 e3
    cases q
    cases hk : fldD nm fl w with
    | none => rw [hk] at e4; cases e4
    | some kvs =>
      rw [hk] at e4
      cases e4
      unfold fldD at hk
      split at hk
      · rename_i nm' fs
        split at hk
        · rename_i hnm
          subst hnm
          split at hk
          · rename_i kvs' hl
            cases hk
            obtain ⟨a, C', dx, us, rfl, hm, hH, rk⟩ := r2.obj
            rw [hC] at hm
            cases hm
            obtain ⟨v', h1, h2⟩ := rk.lookup (vs := us) hl
            obtain ⟨d, ob, av, rfl, hd, hn, rr⟩ := (show Rn K mg io1 _ H1 (.dF kvs) v' from .inl h2).dF
            exact ⟨a, dx, us, d, ob, av, rfl, hH, h1, hd, hok _ rfl _ _ _ ⟨S1, T1⟩ (itg_dF hd hn rr.1)⟩
          · cases hk
        · cases hk
      · cases hk
theorem pei_ownD (hC : X.mg nm = some (.ref C)) (hit : PySem.W.findIn X.K (.ref C) "__iter__" = some (some (.ref fi))) (hf : PySem.W.isFn X.K (.ref fi) = true) (FI : FnIt X.prog X.w X.K X.mg X.base fi fdI psI C fl) (bI : Binds X.K fdI psI []) (hp : psI.length = 1) (hr : Room 1 X.A) (he : Pee X ea Wx e me) : Pei X ea Wx tg e (mIterO nm fl me) :=
  let ⟨_, p, r⟩ := he.ex; ⟨_, pi_ownD hit hf FI bI hp hr p, ref_iterO hC r⟩
end
section
variable {r : List SV} {G : List Cell} {m : Mo RV} {nm fl : Str}
@[simp] theorem mIterO_e : mIterO nm fl m ⟨r, G⟩ = bnd m (fun x => bnd (look (settle x)) fun w => match fldD nm fl w with
  | some kvs => Z.ret ⟨kvs.map fun p => keyW p.1, none⟩
  | none => stk) ⟨r, G⟩ := rfl
end
end Z

set_option linter.all false
set_option Elab.async false
set_option maxRecDepth 100000
/-! Z39: new dicts. -/
namespace Z
open PySem PySem.Spec PyProof.Rows L2
/-- {} that will have tuple keys -/
def mDNewT : Mo RV := ret (.own (.dT []))
section
variable {X : Cx} {ea : EA} {Wx : WX} {pos : Pos}
theorem ref_dnewT {K : PySem.W.Frag} {mg : Str → Option Value} : RefE K mg ea Wx tDNewT mDNewT := by
  intro σ H io Fr s S0 r0 s' e Q hok hex
  cases e
  intro p hp
  obtain ⟨S, T, nf⟩ := S0.alloc (o := .dT []) hp
  exact hok _ rfl _ _ _ ⟨p, .dT [], rfl, upd_same, nf, S, T, [], rfl, Rkv.nil⟩
theorem pee_dnewT : Pee X ea Wx (.Dict [] [] pos) mDNewT := ⟨_, pe_dnewT, ref_dnewT⟩
end
@[simp] theorem mDNewT_e {r : List SV} {G : List Cell} : mDNewT ⟨r, G⟩ = some (.ok (.own (.dT [])), ⟨r, G⟩) := rfl
end Z

set_option linter.all false
set_option Elab.async false
set_option maxRecDepth 100000
/-! Z40: instances with five slots whose last is tuple(x). -/
namespace Z
open PySem PySem.Spec PyProof.Rows L2
/-- the places of the slots (they are laid in the order of their names) -/
structure Sl5 (K : PySem.W.Frag) (C : Addr) (n0 n1 n2 n3 n4 : Str) : Prop where
  c : SlX.SCls K C
  s0 : ∃ p, SlX.Slot1 K C n0 p 2
  s1 : ∃ p, SlX.Slot1 K C n1 p 3
  s2 : ∃ p, SlX.Slot1 K C n2 p 1
  s3 : ∃ p, SlX.Slot1 K C n3 p 4
  s4 : ∃ p, SlX.Slot1 K C n4 p 0
def spSl5 (K : PySem.W.Frag) (C : Addr) : Sp := fun vs H Q _ => ∃ (H0 : Hp) (x dx l : Addr) (a b c d : V) (xs : List V), vs = [.ref x, a, b, c, d, .ref l] ∧ H = upd (upd H0 dx (.own x)) x (.ins C dx []) ∧ H0 x = none ∧ H0 dx = none ∧ dx ≠ x ∧
  ((SqL K H0 l xs ∧ ∀ p, H0 p = none → p ≠ x → p ≠ dx → Q .non (upd (upd (upd H0 p (.tup xs)) dx (.xd [])) x (SlX.SlO x C dx ([V.ref p, c, a, b, d].map some)))) ∨
    (SqT K H0 l xs ∧ Q .non (upd (upd H0 dx (.xd [])) x (SlX.SlO x C dx ([V.ref l, c, a, b, d].map some)))))
section
variable {P : Program} {w : World} {K : PySem.W.Frag} {mg : Str → Option Value} {base : Heap} {x qual : Str} {st : Stmt} {f C : Addr} {fd : FuncData} {n0 n1 n2 n3 n4 : Str}
def tTup5 (K : PySem.W.Frag) : TE := tCB (fun xs H Q => ∃ p ys, xs = [.ref p] ∧ ((SqL K H p ys ∧ ∀ l, H l = none → Q (.ref l) (upd H l (.tup ys))) ∨ (SqT K H p ys ∧ Q (.ref p) H))) (tCons (tVar 5) tNil)
theorem sl5_ok {N : List Str} (F : Fun K x qual st f fd) (S : FnScope N N (defScope st)) (hN : N.length = 6) (T : Sl5 K C n0 n1 n2 n3 n4)
    (hb : ∀ (cdv : Value) (A : Around) (outer : List Env) (s : Shared) (H : Hp) (E : XK), PSs (cxOf (L2.CX P w) P w K mg base N qual (defScope st) f cdv A outer s H E) (defBody st)
      (tSeq (SlX.sSl K (tVar 0) (tVar 1) n0) (tSeq (SlX.sSl K (tVar 0) (tVar 2) n1) (tSeq (SlX.sSl K (tVar 0) (tVar 3) n2) (tSeq (SlX.sSl K (tVar 0) (tVar 4) n3) (SlX.sSl K (tVar 0) (tTup5 K) n4)))))) :
    FnOk P w K mg base (L2.CX P w) 1 f fd N (spSl5 K C) := by
  refine F.okX S (fun vs H Q E h => ?_) fun cdv A outer s H vs Q E hr h => ?_
  · obtain ⟨_, _, _, _, _, _, _, _, _, rfl, _⟩ := h
    rw [hN]
    rfl
  · obtain ⟨H0, x, dx, l, a, b, c, d, xs, rfl, rfl, hx, hd, ne, q⟩ := h
    obtain ⟨cl, ⟨p0, t0⟩, ⟨p1, t1⟩, ⟨p2, t2⟩, ⟨p3, t3⟩, ⟨p4, t4⟩⟩ := T
    have st6 : L2.start N [.ref x, a, b, c, d, .ref l] = [some (V.ref x), some a, some b, some c, some d, some (.ref l)] := by
      match N, hN with
      | [_, _, _, _, _, _], _ => rfl
    rw [st6]
    refine ⟨_, hb cdv A outer s _ E, ?_⟩
    let H := upd (upd H0 dx (.own x)) x (.ins C dx [])
    let v4 : List (Option V) := [none, some c, some a, some b, some d]
    let H4 := SlX.slH H x C dx v4
    have four : SlX.slH (SlX.slH (SlX.slH (SlX.slH H x C dx (SlX.putS 2 a [])) x C dx (SlX.putS 3 b (SlX.putS 2 a []))) x C dx (SlX.putS 1 c (SlX.putS 3 b (SlX.putS 2 a [])))) x C dx (SlX.putS 4 d (SlX.putS 1 c (SlX.putS 3 b (SlX.putS 2 a [])))) = H4 := by
      rw [SlX.slH_twice ne, SlX.slH_twice ne, SlX.slH_twice ne]
      rfl
    have at4 : ∀ z, z ≠ x → z ≠ dx → H4 z = H0 z := fun z h1 h2 => by
      show SlX.slH H x C dx v4 z = _
      rw [SlX.slH_ne h1 h2]
      show upd (upd H0 dx (.own x)) x (.ins C dx []) z = _
      rw [upd_ne h1, upd_ne h2]
    have x4 : H4 x = some (SlX.SlO x C dx v4) := upd_same
    have d4 : H4 dx = some (.xd []) := by
      show upd (upd H dx (.xd [])) x _ dx = _
      rw [upd_ne ne, upd_same]
    have stand : ∀ z o, H0 z = some o → z ≠ x ∧ z ≠ dx := fun z o e => ⟨fun k => by (rw [k, hx] at e; cases e), fun k => by (rw [k, hd] at e; cases e)⟩
    have move : ∀ z u, Rd H0 z u → Rd H4 z u := fun z u r => by
      rcases r with r | ⟨o, r⟩
      · exact .inl (by rw [at4 _ (stand _ _ r).1 (stand _ _ r).2]; exact r)
      · exact .inr ⟨o, by rw [at4 _ (stand _ _ r).1 (stand _ _ r).2]; exact r⟩
    have last : tTup5 K [some (V.ref x), some a, some b, some c, some d, some (.ref l)] H4 (fun y H5 => SlX.Slt H5 x C dx v4 ∧ Q .non (SlX.slH H5 x C dx (SlX.putS 0 y v4))) := by
      refine ⟨_, rfl, l, xs, rfl, ?_⟩
      rcases q with ⟨sq, q⟩ | ⟨sq, q⟩
      · refine .inl ⟨?_, fun p hp => ⟨.inr ⟨?_, ?_⟩, ?_⟩⟩
        · exact sq.imp (move _ _) id
        · rw [upd_ne fun z => by rw [← z, x4] at hp; cases hp]
          exact x4
        · rw [upd_ne fun z => by rw [← z, d4] at hp; cases hp]
          exact d4
        · have px : p ≠ x := fun z => by rw [z, x4] at hp; cases hp
          have pd : p ≠ dx := fun z => by rw [z, d4] at hp; cases hp
          have e : SlX.slH (upd H4 p (.tup xs)) x C dx (SlX.putS 0 (V.ref p) v4) = upd (upd (upd H0 p (.tup xs)) dx (.xd [])) x (SlX.SlO x C dx ([V.ref p, c, a, b, d].map some)) := by
            funext z
            unfold SlX.slH
            by_cases z1 : z = x
            · rw [z1, upd_same, upd_same]
              rfl
            · rw [upd_ne z1, upd_ne z1]
              by_cases z2 : z = dx
              · rw [z2, upd_same, upd_same]
              · rw [upd_ne z2, upd_ne z2]
                by_cases z3 : z = p
                · rw [z3, upd_same, upd_same]
                · rw [upd_ne z3, upd_ne z3]
                  exact at4 z z1 z2
          rw [e]
          exact q p (by rw [← at4 p px pd]; exact hp) px pd
      · refine .inr ⟨?_, .inr ⟨x4, d4⟩, ?_⟩
        · exact sq.imp (move _ _) id
        · have e : SlX.slH H4 x C dx (SlX.putS 0 (V.ref l) v4) = upd (upd H0 dx (.xd [])) x (SlX.SlO x C dx ([V.ref l, c, a, b, d].map some)) := by
            funext z
            unfold SlX.slH
            by_cases z1 : z = x
            · rw [z1, upd_same, upd_same]
              rfl
            · rw [upd_ne z1, upd_ne z1]
              by_cases z2 : z = dx
              · rw [z2, upd_same, upd_same]
              · rw [upd_ne z2, upd_ne z2]
                exact at4 z z1 z2
          rw [e]
          exact q
    refine ⟨_, rfl, _, rfl, x, C, dx, p0, [], 2, rfl, .inl ⟨upd_same, rfl⟩, cl, t0, ?_⟩
    refine ⟨_, rfl, _, rfl, x, C, dx, p1, _, 3, rfl, SlX.slH_slt ne, cl, t1, ?_⟩
    refine ⟨_, rfl, _, rfl, x, C, dx, p2, _, 1, rfl, SlX.slH_slt ne, cl, t2, ?_⟩
    refine ⟨_, rfl, _, rfl, x, C, dx, p3, _, 4, rfl, SlX.slH_slt ne, cl, t3, ?_⟩
    show SlX.sSl K (tVar 0) (tTup5 K) n4 { nx := fun _ H' => Q .non H', rt := Q } _ (SlX.slH (SlX.slH (SlX.slH (SlX.slH H x C dx (SlX.putS 2 a [])) x C dx (SlX.putS 3 b (SlX.putS 2 a []))) x C dx (SlX.putS 1 c (SlX.putS 3 b (SlX.putS 2 a [])))) x C dx (SlX.putS 4 d (SlX.putS 1 c (SlX.putS 3 b (SlX.putS 2 a [])))))
    rw [four]
    obtain ⟨z1, z2, p, ys, z3, z⟩ := last
    refine ⟨z1, z2, p, ys, z3, ?_⟩
    rcases z with ⟨k1, k2⟩ | ⟨k1, k2, k3⟩
    · refine .inl ⟨k1, fun l hl => ?_⟩
      obtain ⟨k3, k4⟩ := k2 l hl
      exact ⟨_, rfl, x, C, dx, p4, v4, 0, rfl, k3, cl, t4, k4⟩
    · exact .inr ⟨k1, _, rfl, x, C, dx, p4, v4, 0, rfl, k2, cl, t4, k3⟩
end
end Z

set_option linter.all false
set_option Elab.async false
set_option maxRecDepth 100000
/-! Z41: instances with slots, made and read. -/
namespace Z
open PySem PySem.Spec PyProof.Rows L2
def mk5 (nm : Str) : List W → Mo RV
  | [a, b, c, d, e] => fun s => match derefW s e with
    | some (.lst es) => some (.ok (.val (.slt nm [.tup es, c, a, b, d])), s)
    | some (.frl es) => some (.ok (.val (.slt nm [.tup es, c, a, b, d])), s)
    | some (.tup es) => some (.ok (.val (.slt nm [.tup es, c, a, b, d])), s)
    | _ => none
  | _ => stk
def mMakeS (nm : Str) (ms : Mo (List RV)) : Mo RV := bnd ms fun xs => bnd (freezeAll xs) (mk5 nm)
def fSlot (tab : List (Str × Nat)) : W → Option OR
  | .slt nm ws => (tab.lookup nm).bind fun i => (ws[i]?).map .imm
  | _ => none
/-- where a slot stands, by class -/
def SlN (K : PySem.W.Frag) (mg : Str → Option Value) (tab : List (Str × Nat)) (f : Str) : Prop := ∀ nm i, tab.lookup nm = some i → ∃ C, mg nm = some (.ref C) ∧ SlX.SCls K C ∧ ∃ p, SlX.Slot1 K C f p i
theorem SlN.nil {K : PySem.W.Frag} {mg : Str → Option Value} {f : Str} : SlN K mg [] f := fun nm i h => by cases h
theorem SlN.cons {K : PySem.W.Frag} {mg : Str → Option Value} {f nm : Str} {C p : Addr} {i : Nat} {tab : List (Str × Nat)} (hC : mg nm = some (.ref C)) (c : SlX.SCls K C) (s : SlX.Slot1 K C f p i) (r : SlN K mg tab f) : SlN K mg ((nm, i) :: tab) f := fun n j h => by
  rw [List.lookup_cons] at h
  by_cases e : (n == nm) = true
  · rw [e] at h
    cases h
    rw [eq_of_beq e]
    exact ⟨C, hC, c, p, s⟩
  · rw [show (n == nm) = false by simpa using e] at h
    exact r n j h
section
variable {K : PySem.W.Frag} {mg : Str → Option Value} {ea : EA} {Wx : WX} {io : List Addr} {Fr : Addr → Prop} {s s' : S} {σ : L2.St} {H : Hp} {M : Addr → Prop} {nm : Str} {ws : List W} {v : V}
theorem Rn.slt (h : Rn K mg io M H (.slt nm ws) v) : ∃ (a C dx : Addr) (vs : List V), v = .ref a ∧ mg nm = some (.ref C) ∧ H a = some (SlX.SlO a C dx (vs.map some)) ∧ H dx = some (.xd []) ∧ Rws K mg io M H ws vs := by
  rcases h with h | ⟨c, o, a, e, rfl, ha, hc⟩
  · cases h with
    | slt m h n h2 n2 l q => exact ⟨_, _, _, _, rfl, m, h, h2, l, q⟩
  · cases c <;> cases e
theorem slot_hr {tab : List (Str × Nat)} {f : Str} (T : SlN K mg tab f) : ∀ (io : List Addr) (M : Addr → Prop) (H : Hp) (x : W) (vx : V) (z : OR) (Q : VK), Rn K mg io M H x vx → fSlot tab x = some z → OQ K mg io M H z Q →
    ∃ a C dx p vs i v, vx = V.ref a ∧ SlX.Slt H a C dx vs ∧ SlX.SCls K C ∧ SlX.Slot1 K C f p i ∧ vs[i]? = some (some v) ∧ Q v H := by
  intro io M H x vx z Q rx e q
  unfold fSlot at e
  split at e
  · rename_i nm ws
    obtain ⟨i, e1, e2⟩ := Option.bind_eq_some_iff.mp e
    obtain ⟨w, e3, rfl⟩ := Option.map_eq_some_iff.mp e2
    obtain ⟨a, C, dx, vs, rfl, hm, h1, h2, rr⟩ := rx.slt
    obtain ⟨C', hC, c, p, sl⟩ := T nm i e1
    rw [hm] at hC
    cases hC
    obtain ⟨v, e4, r4⟩ := rr.get e3
    exact ⟨a, C, dx, p, vs.map some, i, v, rfl, .inr ⟨h1, h2⟩, c, sl, by rw [List.getElem?_map, e4]; rfl, q v r4⟩
  · cases e
theorem ref_make5 {C : Addr} {ta : TA} {ms : Mo (List RV)} (hC : mg nm = some (.ref C)) (ha : RefA K mg ea Wx ta ms) : RefE K mg ea Wx (tMakeS C (spSl5 K C) [] (WE Wx) ta) (mMakeS nm ms) := by
  intro σ H io Fr s S0 r0 s' e Q hok hex
  refine arg2 ha S0 e hex fun xs vs s1 H1 io1 e2 px R1 => ?_
  rcases bnd_some e2 with ⟨x, e3, rfl⟩ | ⟨ws, s2, e3, e4⟩
  · obtain ⟨_, _, _, _, q, _⟩ := freezeAll_ok px.1 R1 e3
    cases q
  obtain ⟨_, m2, S2, ws', q, r2⟩ := freezeAll_ok px.1 R1 e3
  cases q
  have T2 : Stp io (Ms io Fr s σ) Fr H io1 (Ms io1 Fr s2 σ) H1 := px.2.less m2
  unfold mk5 at e4
  split at e4
  · rename_i a b c d e
    obtain ⟨va, t1, rfl, ra, r2⟩ := r2.cons_inv
    obtain ⟨vb, t2, rfl, rb, r2⟩ := r2.cons_inv
    obtain ⟨vc, t3, rfl, rc, r2⟩ := r2.cons_inv
    obtain ⟨vd, t4, rfl, rd, r2⟩ := r2.cons_inv
    obtain ⟨ve, t5, rfl, re, r2⟩ := r2.cons_inv
    obtain rfl := r2.nil_inv
    intro x dx hx hd ne
    have nm0 : ∀ z, H1 z = none → ¬ Ms io1 Fr s2 σ z := fun z h k => by
      obtain ⟨u, e⟩ := S2.trk k
      rw [h] at e; cases e
    have list : ∀ (es : List W) (l : Addr) (us : List V), ve = .ref l → SqL K H1 l us → Rws K mg io1 (Ms io1 Fr s2 σ) H1 es us → some (Except.ok (RV.val (W.slt nm [.tup es, c, a, b, d])), s2) = some (r0, s') →
        spSl5 K C (.ref x :: ([va, vb, vc, vd, ve] ++ [])) (upd (upd H1 dx (.own x)) x (.ins C dx [])) (fun v H2 => v = .non ∧ Q (.ref x) H2) (WE Wx σ) := by
      rintro es l us rfl sq rr e4
      cases e4
      refine ⟨H1, x, dx, l, va, vb, vc, vd, us, rfl, rfl, hx, hd, ne, .inl ⟨sq, fun p hp px' pd => ⟨rfl, ?_⟩⟩⟩
      obtain ⟨S3, T3⟩ := S2.laid (p := p) (o := .tup us) hp
      obtain ⟨S4, T4⟩ := S3.laid (p := dx) (o := .xd []) (by rw [upd_ne fun z => pd z.symm]; exact hd)
      obtain ⟨S5, T5⟩ := S4.laid (p := x) (o := SlX.SlO x C dx ([V.ref p, vc, va, vb, vd].map some)) (by rw [upd_ne fun z => ne z.symm, upd_ne fun z => px' z.symm]; exact hx)
      have T := T3.trans (T4.trans T5)
      have rows : Rws K mg io1 (Ms io1 Fr s' σ) (upd (upd (upd H1 p (.tup us)) dx (.xd [])) x (SlX.SlO x C dx ([V.ref p, vc, va, vb, vd].map some))) [.tup es, c, a, b, d] [V.ref p, vc, va, vb, vd] := by
        have k := rr.pers T.p
        refine Rws.cons (.tup (.inl ⟨?_, nm0 p hp⟩) k.1 k.2) (Rws.cons (rc.pers T.p) (Rws.cons (ra.pers T.p) (Rws.cons (rb.pers T.p) (Rws.cons (rd.pers T.p) Rws.nil))))
        rw [upd_ne px', upd_ne pd, upd_same]
      exact hok _ rfl _ _ io1 ⟨S5, T2.trans T, .slt hC upd_same (nm0 x hx) (by rw [upd_ne ne, upd_same]) (nm0 dx hd) rows.1 rows.2⟩
    split at e4
    · rename_i es hz
      obtain ⟨l, us, h1, h2, h3⟩ := (deref_ok S2 re hz).lst
      exact list es l us h1 (SqL.of h2) h3 e4
    · rename_i es hz
      obtain ⟨l, us, h1, h2, h3⟩ := (deref_ok S2 re hz).frl
      exact list es l us h1 h2 h3 e4
    · rename_i es hz
      cases e4
      have rw := (deref_ok S2 re hz).tupRw
      obtain ⟨l, us, rfl, h2, h3⟩ := (deref_ok S2 re hz).tup
      refine ⟨H1, x, dx, l, va, vb, vc, vd, us, rfl, rfl, hx, hd, ne, .inr ⟨h2, rfl, ?_⟩⟩
      obtain ⟨S4, T4⟩ := S2.laid (p := dx) (o := .xd []) hd
      obtain ⟨S5, T5⟩ := S4.laid (p := x) (o := SlX.SlO x C dx ([V.ref l, vc, va, vb, vd].map some)) (by rw [upd_ne fun z => ne z.symm]; exact hx)
      have T := T4.trans T5
      have rows : Rws K mg io1 (Ms io1 Fr s' σ) (upd (upd H1 dx (.xd [])) x (SlX.SlO x C dx ([V.ref l, vc, va, vb, vd].map some))) [.tup es, c, a, b, d] [V.ref l, vc, va, vb, vd] :=
        Rws.cons (rw.pers T.p) (Rws.cons (rc.pers T.p) (Rws.cons (ra.pers T.p) (Rws.cons (rb.pers T.p) (Rws.cons (rd.pers T.p) Rws.nil))))
      exact hok _ rfl _ _ io1 ⟨S5, T2.trans T, .slt hC upd_same (nm0 x hx) (by rw [upd_ne ne, upd_same]) (nm0 dx hd) rows.1 rows.2⟩
    · cases e4
  · cases e4
end
section
variable {X : Cx} {ea : EA} {Wx : WX} {e o : Expr} {es : List Expr} {mo : Mo RV} {ms : Mo (List RV)} {f C : Addr} {fd : FuncData} {ps : List Str} {x fl : Str} {p pos apos : Pos} {tab : List (Str × Nat)}
theorem pee_make5 (hC : X.mg x = some (.ref C)) (M : Mk X.K C f) (F : FnOk X.prog X.w X.K X.mg X.base (L2.CX X.prog X.w) 1 f fd ps (spSl5 X.K C)) (hr : Room 2 X.A) (hb : Binds X.K fd ps []) (tk : Takes X Wx) (ha : Pea X ea Wx (e :: es) ms) (hg : Gl X x := by rfl)
    (hdb : (x == ("__debug__" : Str)) = false := by decide) (he : starEach (e :: es) X.env = (false, eval e X.env) :: starEach es X.env := by rfl) (hpl : (backTo pos (starEach es X.env)).any (·.1) = false := by rfl) :
    Pee X ea Wx (.Call (.Name x p) (e :: es) [] pos) (mMakeS x ms) := by
  obtain ⟨t, q, r⟩ := ha.ex
  exact ⟨_, pe_makeS M F hr hg hC hb .nil (fun σ => passAt tk σ) q hdb he hpl, ref_make5 hC r⟩
theorem pee_slot (T : SlN X.K X.mg tab fl) (ho : Pee X ea Wx o mo) (hb : attributeBase o fl X.env (eval o X.env) = eval o X.env := by rfl) : Pee X ea Wx (.Attribute o fl pos) (mUn (fSlot tab) mo) := by
  obtain ⟨t, q, r⟩ := ho.ex
  exact ⟨_, SlX.pe_sl q hb, ref_un (r := fun vx H Q => ∃ a C dx p vs i v, vx = V.ref a ∧ SlX.Slt H a C dx vs ∧ SlX.SCls X.K C ∧ SlX.Slot1 X.K C fl p i ∧ vs[i]? = some (some v) ∧ Q v H) (slot_hr T) r⟩
end
section
variable {r : List SV} {G : List Cell} {ms : Mo (List RV)} {nm : Str} {ws : List W} {a b c d e : W} {tab : List (Str × Nat)}
@[simp] theorem mMakeS_e : mMakeS nm ms ⟨r, G⟩ = bnd ms (fun xs => bnd (freezeAll xs) (mk5 nm)) ⟨r, G⟩ := rfl
@[simp] theorem mk5_e : mk5 nm [a, b, c, d, e] ⟨r, G⟩ = match derefW ⟨r, G⟩ e with
    | some (.lst es) => some (.ok (.val (.slt nm [.tup es, c, a, b, d])), ⟨r, G⟩)
    | some (.frl es) => some (.ok (.val (.slt nm [.tup es, c, a, b, d])), ⟨r, G⟩)
    | some (.tup es) => some (.ok (.val (.slt nm [.tup es, c, a, b, d])), ⟨r, G⟩)
    | _ => none := rfl
@[simp] theorem fSlot_e : fSlot tab (.slt nm ws) = (tab.lookup nm).bind fun i => (ws[i]?).map .imm := rfl
@[simp] theorem look_slt : look (.val (.slt nm ws)) ⟨r, G⟩ = some (.ok (.slt nm ws), ⟨r, G⟩) := rfl
@[simp] theorem deref_slt {s : S} : derefW s (.slt nm ws) = some (.slt nm ws) := rfl
end
end Z

set_option linter.all false
set_option Elab.async false
set_option maxRecDepth 100000
/-! Z42: f-strings with whole numbers in fields of a width. -/
namespace Z
open PySem PySem.Spec PyProof.Rows L2
/-- {x:0Nd} -/
def specZ (n : Nat) : Builtin.Float.FormatSpec := { fill := 48, align := 61, width := some n, type := some 100 }
theorem after_cut {a : Int} {t : Tok} {k : String → Sem PySem.Fin} {m : Made} (g : Gives (k "int") m) : Gives (do let n ← typeNameOfCut 200 (.int a t); k n) m := fun prog w A R s hq => by
  refine wpAny_bind (wpAny_typeNameOfCut_int ?_)
  exact g prog w A R s hq
theorem gives_06 (a : Int) (t u : Tok) (h : a.natAbs.log2 < 1920) : Gives (Builtin.«int.__format__» ⟨[.int a t, .str "06d" u], []⟩) (.str (intSpecText (specZ 6) a)) := by
  show Gives (do let _ ← typeNameOf (.str "06d" u); let n ← typeNameOfCut 200 (.int a t); _) _
  refine gives_after_typeNameOf (T := "str") (fun s => typeIs_str s _ _) (by decide) fun _ => after_cut ?_
  show Gives (do let r ← Builtin.overDigitLimit? a; _) _
  rw [PySem.overDigitLimit_small h]
  exact .of_eq (by kernel_rfl)
theorem gives_02 (a : Int) (t u : Tok) (h : a.natAbs.log2 < 1920) : Gives (Builtin.«int.__format__» ⟨[.int a t, .str "02d" u], []⟩) (.str (intSpecText (specZ 2) a)) := by
  show Gives (do let _ ← typeNameOf (.str "02d" u); let n ← typeNameOfCut 200 (.int a t); _) _
  refine gives_after_typeNameOf (T := "str") (fun s => typeIs_str s _ _) (by decide) fun _ => after_cut ?_
  show Gives (do let r ← Builtin.overDigitLimit? a; _) _
  rw [PySem.overDigitLimit_small h]
  exact .of_eq (by kernel_rfl)
end Z

set_option linter.all false
set_option Elab.async false
set_option maxRecDepth 100000
/-! Z43: texts of signs below 128 as bytes, by the codec of ascii. -/
namespace Z
open PySem PySem.Spec PySem.Calls PyProof.Rows L2
open Builtin._codecs in
theorem road_ascii (id : String) (self : Value) (x : Str) : encodeRoad id self x (Str.ofString "ascii") none = (do mkBytes (← encodeNarrow id asciiCodec none self x)) := by
  first | rfl | (unfold encodeRoad; rfl)
theorem tree_ascii (x : Str) (t u : Tok) : Builtin.«str.encode» ⟨[.str x t, .str "ascii" u], []⟩ = (do PySem.ret (← Builtin._codecs.encodeRoad "str.encode" (.str x t) x (Str.ofString "ascii") none)) := by kernel_rfl
theorem bytes_fold : ∀ (l : List Nat) (acc : Array UInt8), l.foldl (fun z y => z ++ (Builtin._codecs.asciiCodec.bytesOf y).toArray) acc = acc ++ (l.map Nat.toUInt8).toArray
  | [], acc => by simp
  | y :: l, acc => by
    rw [List.foldl_cons, bytes_fold l]
    show acc ++ [y.toUInt8].toArray ++ _ = _
    simp
section
variable {M : Model} {A : Around} {E : Value → Shared → Prop} {s : Shared} {x : Str} {id : String} {self : Value}
theorem wp_ascii {Q : Array UInt8 → Shared → Prop} (asc : W.KSb.Asc x) (few : x.length ≤ sizeLine) (fin : Q (W.KSb.enc x) s) : wpAny M A (Builtin._codecs.encodeNarrow id Builtin._codecs.asciiCodec none self x) Q E s := by
  have good : ∀ y ∈ x.cps.toList, Builtin._codecs.asciiCodec.bad y = false := fun y m => decide_eq_false (Nat.not_le_of_lt (asc y m))
  have all : x.cps.extract 0 x.cps.size = x.cps := by simp
  have none' : (x.cps.findIdx? Builtin._codecs.asciiCodec.bad).getD x.cps.size = x.cps.size := by
    have e : x.cps.findIdx? Builtin._codecs.asciiCodec.bad = none := Array.findIdx?_eq_none_iff.mpr fun y m => good y (Array.mem_toList_iff.mpr m)
    rw [e]
    rfl
  have told : x.cps.foldl (fun z y => z ++ (Builtin._codecs.asciiCodec.bytesOf y).toArray) #[] = W.KSb.enc x := by
    rw [← Array.foldl_toList, bytes_fold, Array.empty_append]
    rfl
  unfold Builtin._codecs.encodeNarrow
  refine wpAny_bind ?_
  rw [W.KPc.range_list]
  rcases Nat.eq_zero_or_pos x.length with zero | pos
  · have e0 : W.KSb.enc x = #[] := Array.eq_empty_of_size_eq_zero ((W.KSb.enc_size x).trans zero)
    rw [zero]
    show wpAny M A (forIn ([] : List Nat) _ _) _ E s
    rw [List.forIn_nil]
    exact wpAny_pure (wpAny_pure (by rw [← e0]; exact fin))
  · obtain ⟨n, hn⟩ := Nat.exists_eq_succ_of_ne_zero (Nat.pos_iff_ne_zero.mp pos)
    have lt : 0 < x.cps.size := pos
    have first : x.cps[0]? = some x.cps[0] := Array.getElem?_eq_getElem lt
    have fine : Builtin._codecs.asciiCodec.bad x.cps[0] = false := good _ (Array.mem_toList_iff.mpr (Array.getElem_mem lt))
    rw [hn, List.range'_succ]
    refine W.KPc.turn (wpAny_ite ?_)
    rw [if_neg (show ¬ (#[] : Array UInt8).size > sizeLine from Nat.not_lt.mpr (Nat.zero_le _)), first]
    dsimp only
    refine wpAny_ite ?_
    rw [fine, if_pos (show (!false) = true from rfl), all, none', all, told]
    refine wpAny_pure ?_
    cases n with
    | zero =>
      show wpAny M A (forIn ([] : List Nat) _ _) _ E s
      rw [List.forIn_nil]
      exact wpAny_pure (wpAny_pure fin)
    | succ m =>
      rw [List.range'_succ]
      refine W.KPc.turn (wpAny_ite ?_)
      rw [if_neg (show ¬ (W.KSb.enc x).size > sizeLine by rw [W.KSb.enc_size]; exact Nat.not_lt.mpr few), show x.cps[0 + x.cps.size]? = none from Array.getElem?_eq_none (by omega)]
      exact wpAny_pure (wpAny_pure fin)
end
theorem meets_ascii {x : Str} {t u : Tok} (asc : W.KSb.Asc x) (few : x.length ≤ sizeLine) : Meets (Builtin.«str.encode» ⟨[.str x t, .str "ascii" u], []⟩) (fun _ R s => ∀ t' k, R (.ok (.ret (.bytes (W.KSb.enc x) t'))) { s with toks := k }) := by
  refine .of_wp fun prog w A R s h => ?_
  rw [tree_ascii, road_ascii]
  refine wpAny_bind (wpAny_bind (wp_ascii asc few (wpAny_mkBytes ?_ (by rw [W.KSb.enc_size]; exact few))))
  exact wpAny_pure ⟨_, rfl, h _ _⟩
theorem mt_encode {X : Cx} : MtR X "str.encode" (fun x xs H Q => ∃ a : Str, x = .str a ∧ xs = [.str "ascii"] ∧ W.KSb.Asc a ∧ a.length ≤ sizeLine ∧ Q (.byt (W.KSb.enc a)) H) := by
  intro pins s σ H x xs v us Q I rx rs h
  obtain ⟨a, rfl, rfl, asc, few, q⟩ := h
  obtain ⟨t, rfl⟩ := rx
  obtain ⟨u, rfl, r1⟩ := rs.one
  obtain ⟨t2, rfl⟩ := r1
  exact call_meets F.slot_str_encode (typeIs_str s a t) F.entry_str_encode (F.args_str_encode_2 _ _) (meets_ascii asc few) fun t' k => ⟨.byt _, H, I.tok k, ⟨t', rfl⟩, q⟩
end Z

set_option linter.all false
set_option Elab.async false
set_option maxRecDepth 100000
/-! Z44: f-strings, methods of texts with one argument, as mirrors. -/
namespace Z
open PySem PySem.Spec PyProof.Rows L2
/-- conditions that no reckoning decides -/
def Sk (i : Int) : Prop := i.natAbs.log2 < 1920
noncomputable instance (i : Int) : Decidable (Sk i) := Classical.propDecidable _
def Mk6 (i : Int) : Prop := 0 ≤ i ∧ i < 1000000
noncomputable instance (i : Int) : Decidable (Mk6 i) := Classical.propDecidable _
def Jk (n : Nat) : Prop := n ≤ 16777216
noncomputable instance (n : Nat) : Decidable (Jk n) := Classical.propDecidable _
noncomputable def fFmt : W → Option OR
  | .str y => if y.length ≤ sz then some (.imm (.str y)) else none
  | .int i => if Sk i then some (.imm (.str (toString i))) else none
  | _ => none
/-- {x:0Nd}, x below a million -/
noncomputable def fFmtZ (n : Nat) : W → Option OR
  | .int i => if Mk6 i then some (.imm (.str (intSpecText (specZ n) i))) else none
  | _ => none
theorem specZ_len (n : Nat) {i : Int} (h0 : 0 ≤ i) (h1 : i < 1000000) : (intSpecText (specZ n) i).length ≤ max n 6 := by
  rw [intSpecText_length i rfl rfl, if_neg (by omega)]
  have : (Nat.toDigits 10 i.natAbs).length ≤ 6 := digits10_le (by omega) (by omega)
  show max n (0 + _) ≤ _
  omega
def mJs : List (Mo RV) → Str → Mo RV
  | [], acc => ret (.val (.str acc))
  | m :: ms, acc => bnd m fun x => match x with
    | .val (.str y) => if (acc ++ y).length ≤ sz then mJs ms (acc ++ y) else stk
    | _ => stk
def mTx1 (f : Str → W → Option OR) (mo me : Mo RV) : Mo RV := bnd mo fun x => bnd (look (settle x)) fun wx => match wx with
  | .str a => bnd me fun y => bnd (look (settle y)) fun wy => liftO (f a wy)
  | _ => stk
def strsOf : List W → Option (List Str)
  | [] => some []
  | .str x :: ws => (strsOf ws).map (x :: ·)
  | _ => none
noncomputable def fJoin (a : Str) : W → Option OR
  | .lst ws => (strsOf ws).bind fun ys => if Jk ((ys.map (·.length)).sum + ys.length * a.length) then some (.imm (.str (Txt.join a ys))) else none
  | _ => none
def fEnc (a : Str) : W → Option OR
  | .str e => if e = "ascii" ∧ (a.cps.toList.all fun c => decide (c < 128)) = true ∧ a.length ≤ sz then some (.imm (.byt (W.KSb.enc a))) else none
  | _ => none
section
variable {X : Cx} {K : PySem.W.Frag} {mg : Str → Option Value} {ea : EA} {Wx : WX} {ws : List W} {vs : List V}
theorem pe_fmtZ6 {e sp : Expr} {te : TE} {pos : Pos} (he : PE X e te) (hs : PE X sp (tC (.str "06d"))) : PE X (.FormattedValue e (-1) (some sp) pos) (tUn (fun x H Q => ∃ i : Int, x = .int i ∧ 0 ≤ i ∧ i < 1000000 ∧ Q (.str (intSpecText (specZ 6) i)) H) te) := by
  refine ⟨fun pins s σ H Q I h => wpAny_FormattedValue_spec (thn (he.run pins s σ H _ I h) fun v s1 ⟨x, H1, I1, r1, i, ex, h0, h1, q⟩ => thn (hs.run pins s1 σ H1 (fun y H2 => y = .str "06d" ∧ H2 = H1) I1 ⟨rfl, rfl⟩) fun u s2 ⟨y, H2, I2, r2, ey, eH⟩ => ?_)⟩
  subst ex; subst ey; subst eH
  obtain ⟨t, rfl⟩ := r1
  obtain ⟨t2, rfl⟩ := r2
  have small : i.natAbs.log2 < 1920 := by
    have : i.natAbs < 2 ^ 1920 := Nat.lt_of_lt_of_le (show i.natAbs < 2 ^ 20 by omega) (Nat.pow_le_pow_right (by omega) (by omega))
    by_cases z : i.natAbs = 0
    · rw [z]; decide
    · exact (Nat.log2_lt z).mpr this
  refine ⟨_, t2, rfl, wpAny_formatField_spec (by decide) (fun s' => typeIs_int s' i t) F.slot_int_format F.entry_int_format F.args_int_format_2 (fun u => gives_06 i t u small) ⟨.str _, H2, I2.tok _, ⟨_, rfl⟩, q⟩ (by decide) ?_⟩
  have := specZ_len 6 h0 h1
  rw [sizeLine_eq]
  omega
theorem pe_fmtZ2 {e sp : Expr} {te : TE} {pos : Pos} (he : PE X e te) (hs : PE X sp (tC (.str "02d"))) : PE X (.FormattedValue e (-1) (some sp) pos) (tUn (fun x H Q => ∃ i : Int, x = .int i ∧ 0 ≤ i ∧ i < 1000000 ∧ Q (.str (intSpecText (specZ 2) i)) H) te) := by
  refine ⟨fun pins s σ H Q I h => wpAny_FormattedValue_spec (thn (he.run pins s σ H _ I h) fun v s1 ⟨x, H1, I1, r1, i, ex, h0, h1, q⟩ => thn (hs.run pins s1 σ H1 (fun y H2 => y = .str "02d" ∧ H2 = H1) I1 ⟨rfl, rfl⟩) fun u s2 ⟨y, H2, I2, r2, ey, eH⟩ => ?_)⟩
  subst ex; subst ey; subst eH
  obtain ⟨t, rfl⟩ := r1
  obtain ⟨t2, rfl⟩ := r2
  have small : i.natAbs.log2 < 1920 := by
    have : i.natAbs < 2 ^ 1920 := Nat.lt_of_lt_of_le (show i.natAbs < 2 ^ 20 by omega) (Nat.pow_le_pow_right (by omega) (by omega))
    by_cases z : i.natAbs = 0
    · rw [z]; decide
    · exact (Nat.log2_lt z).mpr this
  refine ⟨_, t2, rfl, wpAny_formatField_spec (by decide) (fun s' => typeIs_int s' i t) F.slot_int_format F.entry_int_format F.args_int_format_2 (fun u => gives_02 i t u small) ⟨.str _, H2, I2.tok _, ⟨_, rfl⟩, q⟩ (by decide) ?_⟩
  have := specZ_len 2 h0 h1
  rw [sizeLine_eq]
  omega
theorem fmt_hr : ∀ (io : List Addr) (M : Addr → Prop) (H : Hp) (x : W) (vx : V) (z : OR) (Q : VK), Rn K mg io M H x vx → fFmt x = some z → OQ K mg io M H z Q → (∃ y : Str, vx = .str y ∧ y.length ≤ sizeLine ∧ Q (.str y) H) ∨ ∃ i : Int, vx = .int i ∧ i.natAbs.log2 < 1920 ∧ Q (.str (toString i)) H := by
  intro io M H x vx z Q rx e q
  unfold fFmt at e
  split at e
  · split at e
    · rename_i h
      cases e
      have := rx.str
      subst this
      exact .inl ⟨_, rfl, by rw [sz_eq]; exact h, q _ (.str _)⟩
    · cases e
  · split at e
    · rename_i h
      cases e
      have := rx.int
      subst this
      exact .inr ⟨_, rfl, h, q _ (.str _)⟩
    · cases e
  · cases e
theorem fmtZ_hr (n : Nat) : ∀ (io : List Addr) (M : Addr → Prop) (H : Hp) (x : W) (vx : V) (z : OR) (Q : VK), Rn K mg io M H x vx → fFmtZ n x = some z → OQ K mg io M H z Q → ∃ i : Int, vx = .int i ∧ 0 ≤ i ∧ i < 1000000 ∧ Q (.str (intSpecText (specZ n) i)) H := by
  intro io M H x vx z Q rx e q
  unfold fFmtZ at e
  split at e
  · split at e
    · rename_i h
      cases e
      have := rx.int
      subst this
      exact ⟨_, rfl, h.1, h.2, q _ (.str _)⟩
    · cases e
  · cases e
/-- the parts of an f-string -/
structure Pej (X : Cx) (ea : EA) (Wx : WX) (es : List Expr) (ms : List (Mo RV)) : Prop where
  ex : ∃ ts, PJ X es ts ∧ ∀ acc, RefE X.K X.mg ea Wx (fun σ H Q => tJs ts acc σ H fun out H1 => Q (.str out) H1) (mJs ms acc)
theorem pej_nil : Pej X ea Wx [] [] := ⟨[], .nil, fun acc σ H io Fr s S0 r0 s' e Q hok hex => by
  cases e
  exact hok _ rfl _ _ _ ⟨S0, .refl, .str _⟩⟩
theorem pej_cons {e : Expr} {es : List Expr} {m : Mo RV} {ms : List (Mo RV)} (h : Pee X ea Wx e m) (r : Pej X ea Wx es ms) : Pej X ea Wx (e :: es) (m :: ms) := by
  obtain ⟨t, p, q⟩ := h.ex
  obtain ⟨ts, ps, qs⟩ := r.ex
  refine ⟨t :: ts, .cons p ps, fun acc σ H io Fr s S0 r0 s' e Q hok hex => ?_⟩
  refine one2 q S0 e hex fun x v s1 H1 io1 e2 px => ?_
  split at e2
  · rename_i y
    split at e2
    · rename_i fits
      obtain ⟨S1, T1, R1⟩ := px
      cases R1
      refine ⟨y, rfl, by rw [sz_eq]; exact fits, ?_⟩
      exact qs (acc ++ y) σ H1 io1 Fr s1 S1 _ _ e2 Q (fun x hx v H' io' p => hok x hx v H' io' (p.trans T1)) fun x hx cls d H' io' p => hex x hx cls d H' io' ⟨p.1, T1.trans p.2.1, p.2.2⟩
    · cases e2
  · cases e2
theorem pee_joined {v1 v2 : Expr} {rest : List Expr} {ms : List (Mo RV)} {pos : Pos} (h : Pej X ea Wx (v1 :: v2 :: rest) ms) : Pee X ea Wx (.JoinedStr (v1 :: v2 :: rest) pos) (mJs ms Str.empty) :=
  let ⟨_, p, q⟩ := h.ex; ⟨_, pe_joined p, q _⟩
theorem pee_joined1 {e : Expr} {m : Mo RV} {pos : Pos} (h : Pee X ea Wx e m) : Pee X ea Wx (.JoinedStr [e] pos) m := let ⟨_, p, q⟩ := h.ex; ⟨_, pe_joined1 p, q⟩
theorem pee_fmt {e : Expr} {m : Mo RV} {pos : Pos} (h : Pee X ea Wx e m) : Pee X ea Wx (.FormattedValue e (-1) none pos) (mUn fFmt m) := let ⟨_, p, q⟩ := h.ex; ⟨_, pe_fmt p, ref_un (r := fun x H Q => (∃ y : Str, x = .str y ∧ y.length ≤ sizeLine ∧ Q (.str y) H) ∨ ∃ i : Int, x = .int i ∧ i.natAbs.log2 < 1920 ∧ Q (.str (toString i)) H) fmt_hr q⟩
theorem pee_fmt6 {e : Expr} {m : Mo RV} {p1 p2 pos : Pos} {j : Nat} (h : Pee X ea Wx e m) : Pee X ea Wx (.FormattedValue e (-1) (some (.JoinedStr [.Constant (.str "06d") j p1] p2)) pos) (mUn (fFmtZ 6) m) := let ⟨_, p, q⟩ := h.ex; ⟨_, pe_fmtZ6 p (pe_joined1 pe_str), ref_un (fmtZ_hr 6) q⟩
theorem pee_fmt2 {e : Expr} {m : Mo RV} {p1 p2 pos : Pos} {j : Nat} (h : Pee X ea Wx e m) : Pee X ea Wx (.FormattedValue e (-1) (some (.JoinedStr [.Constant (.str "02d") j p1] p2)) pos) (mUn (fFmtZ 2) m) := let ⟨_, p, q⟩ := h.ex; ⟨_, pe_fmtZ2 p (pe_joined1 pe_str), ref_un (fmtZ_hr 2) q⟩
theorem ref_tx1 {to te : TE} {mo me : Mo RV} {f : Str → W → Option OR} {r : V → List V → Hp → VK → Prop} (hr : ∀ (io : List Addr) (M : Addr → Prop) (H : Hp) (a : Str) (y : W) (vy : V) (z : OR) (Q : VK), Rn K mg io M H y vy → f a y = some z → OQ K mg io M H z Q → r (.str a) [vy] H Q)
    (ho : RefE K mg ea Wx to mo) (he : RefE K mg ea Wx te me) : RefE K mg ea Wx (tM1 r to te) (mTx1 f mo me) := by
  intro σ H io Fr s S0 r0 s' e Q hok hex
  refine one2 ho S0 e hex fun x v s1 H1 io1 e2 px => ?_
  obtain ⟨S1, T1, R1⟩ := px.settled
  rcases bnd_some e2 with ⟨z, e3, rfl⟩ | ⟨wx, s2, e3, e4⟩
  · obtain ⟨_, _, q, _⟩ := look_ok S1 R1 e3
    cases q
  obtain ⟨rfl, wx', q, nx⟩ := look_ok S1 R1 e3
  cases q
  split at e4
  · rename_i a
    have := nx.str
    subst this
    refine ⟨⟨a, rfl⟩, ?_⟩
    refine one2 he S1 e4 (fun x hx cls d H' io' p => hex x hx cls d H' io' ⟨p.1, T1.trans p.2.1, p.2.2⟩) fun y vy s3 H2 io2 e5 py => ?_
    obtain ⟨S2, T2, R2⟩ := py.settled
    rcases bnd_some e5 with ⟨z, e6, rfl⟩ | ⟨wy, s4, e6, e7⟩
    · obtain ⟨_, _, q, _⟩ := look_ok S2 R2 e6
      cases q
    obtain ⟨rfl, wy', q, ny⟩ := look_ok S2 R2 e6
    cases q
    obtain ⟨rfl, u, hu, rfl⟩ := liftO_some e7
    exact hr _ _ _ _ _ _ _ _ ny hu (OQ.post S2 (T1.trans T2) fun v H3 io3 p => hok _ rfl v H3 io3 p)
  · cases e4
theorem strs_vals {io : List Addr} {M : Addr → Prop} {H : Hp} : ∀ {ws : List W} {vs : List V} {ys : List Str}, Rws K mg io M H ws vs → strsOf ws = some ys → vs = ys.map V.str
  | [], vs, ys, r, e => by
    cases e
    exact r.nil_inv
  | w :: ws, vs, ys, r, e => by
    obtain ⟨v, rest, rfl, h1, h2⟩ := r.cons_inv
    unfold strsOf at e
    cases w with
    | str x =>
      obtain ⟨zs, e1, rfl⟩ := Option.map_eq_some_iff.mp (show (strsOf ws).map (x :: ·) = some ys from e)
      cases h1
      rw [strs_vals h2 e1]
      rfl
    | _ => exact absurd (show none = some ys from e) (by simp)
theorem pee_strjoin {o e : Expr} {mo me : Mo RV} {apos cpos : Pos} (ho : Pee X ea Wx o mo) (he : Pee X ea Wx e me) (hbase : attributeBase o "join" X.env (eval o X.env) = eval o X.env := by rfl) (hn : starEach [e] X.env = [(false, eval e X.env)] := by rfl) (hline : (apos.endLine == cpos.line) = true := by rfl) :
    Pee X ea Wx (.Call (.Attribute o "join" apos) [e] [] cpos) (mTx1 fJoin mo me) := by
  obtain ⟨t, p, q⟩ := ho.ex
  obtain ⟨t', p', q'⟩ := he.ex
  refine ⟨_, pe_m1 F.slot_str_join F.type_str_join mt_join p p' hn hbase hline, ref_tx1 (fun io M H a y vy z Q ry e q => ?_) q q'⟩
  unfold fJoin at e
  split at e
  · rename_i ws
    obtain ⟨ys, e1, e2⟩ := Option.bind_eq_some_iff.mp e
    split at e2
    · rename_i fits
      cases e2
      obtain ⟨l, us, rfl, hl, rr⟩ := ry.lst
      obtain rfl := strs_vals rr e1
      exact ⟨a, l, ys, rfl, rfl, .inl (SqL.of hl), fits, q _ (.str _)⟩
    · cases e2
  · cases e
theorem pee_encode {o e : Expr} {mo me : Mo RV} {apos cpos : Pos} (ho : Pee X ea Wx o mo) (he : Pee X ea Wx e me) (hbase : attributeBase o "encode" X.env (eval o X.env) = eval o X.env := by rfl) (hn : starEach [e] X.env = [(false, eval e X.env)] := by rfl) (hline : (apos.endLine == cpos.line) = true := by rfl) :
    Pee X ea Wx (.Call (.Attribute o "encode" apos) [e] [] cpos) (mTx1 fEnc mo me) := by
  obtain ⟨t, p, q⟩ := ho.ex
  obtain ⟨t', p', q'⟩ := he.ex
  refine ⟨_, pe_m1 F.slot_str_encode F.type_str_encode mt_encode p p' hn hbase hline, ref_tx1 (fun io M H a y vy z Q ry e q => ?_) q q'⟩
  unfold fEnc at e
  split at e
  · split at e
    · rename_i y fits
      cases e
      have := ry.str
      subst this
      obtain ⟨h1, h2, h3⟩ := fits
      subst h1
      exact ⟨a, rfl, rfl, W.KSb.asc_of h2, by rw [sz_eq]; exact h3, q _ (.byt _)⟩
    · cases e
  · cases e
end
end Z

set_option linter.all false
set_option Elab.async false
set_option maxRecDepth 100000
/-! Z45: texts and bytes walked; ord, zfill; properties. -/
namespace Z
open PySem PySem.Spec PyProof.Rows L2
def chrsW (x : Str) : List W := x.cps.toList.map fun c => .str ⟨#[c]⟩
def bytsW (x : Array UInt8) : List W := x.toList.map fun c => .int (c.toNat : Nat)
def mIterS (m : Mo RV) : Mo Wk := bnd m fun x => bnd (look (settle x)) fun w => match w with
  | .str x => ret ⟨chrsW x, none⟩
  | _ => stk
def mIterB (m : Mo RV) : Mo Wk := bnd m fun x => bnd (look (settle x)) fun w => match w with
  | .byt x => ret ⟨bytsW x, none⟩
  | _ => stk
def fOrd : List W → Option OR
  | [.str x] => if x.length = 1 then some (.imm (.int (x.cps.getD 0 0 : Nat))) else none
  | _ => none
def fZfill (a : Str) : W → Option OR
  | .int i => if PadOk i = true then some (.imm (.str (Txt.zfill a i))) else none
  | _ => none
def chkS (nm : Str) (w : W) : Mo Unit := fun s => match derefW s w with
  | some (.slt nm' _) => if nm' = nm then some (.ok (), s) else none
  | _ => none
def chkOb (nm : Str) (w : W) : Mo Unit := fun s => match derefW s w with
  | some (.obj nm' _) => if nm' = nm then some (.ok (), s) else none
  | _ => none
def mPropS (nm : Str) (m : Fn) (mo : Mo RV) : Mo RV := bnd mo fun x => bnd (freeze (settle x)) fun w => bnd (chkS nm w) fun _ => quiet (callG m [w])
def mPropO (nm : Str) (m : Fn) (mo : Mo RV) : Mo RV := bnd mo fun x => bnd (freeze (settle x)) fun w => bnd (chkOb nm w) fun _ => quiet (callG m [w])
section
variable {K : PySem.W.Frag} {mg : Str → Option Value} {ea : EA} {io : List Addr} {Fr : Addr → Prop} {s s' : S} {σ : L2.St} {H : Hp} {M : Addr → Prop} {nm : Str} {ws : List W} {v : V} {Wx : WX}
theorem itg_str {x : Str} : ItG K mg (Its x) ⟨chrsW x, none⟩ io M H where
  go := fun io' M' H' P _ i hi => by
    show i < x.cps.size
    simpa [chrsW] using hi
  stop := fun io' M' H' P _ => by
    show x.cps.size ≤ (chrsW x).length
    simp [chrsW]
  yld := fun io' M' H' P _ _ i v H2 y w hw => by
    obtain ⟨rfl, c, hc, rfl⟩ := y
    refine .inl ⟨rfl, ?_⟩
    simp only [chrsW, List.getElem?_map, Array.getElem?_toList, hc, Option.map_some, Option.some.injEq] at hw
    subst hw
    exact .str _
theorem itg_byt {x : Array UInt8} : ItG K mg (Itb x) ⟨bytsW x, none⟩ io M H where
  go := fun io' M' H' P _ i hi => by
    show i < x.size
    simpa [bytsW] using hi
  stop := fun io' M' H' P _ => by
    show x.size ≤ (bytsW x).length
    simp [bytsW]
  yld := fun io' M' H' P _ _ i v H2 y w hw => by
    obtain ⟨rfl, c, hc, rfl⟩ := y
    refine .inl ⟨rfl, ?_⟩
    simp only [bytsW, List.getElem?_map, Array.getElem?_toList, hc, Option.map_some, Option.some.injEq] at hw
    subst hw
    exact .int _
theorem ref_iterS {td : TE} {m : Mo RV} (h : RefE K mg ea Wx td m) : RefI K mg ea Wx (iStr td) (mIterS m) := by
  intro σ H io Fr s S0 r0 s' e R hok hex
  refine one2 h S0 e hex fun x v s1 H1 io1 e2 px => ?_
  obtain ⟨S1, T1, R1⟩ := px.settled
  rcases bnd_some e2 with ⟨z, e3, rfl⟩ | ⟨w, s3, e3, e4⟩
  · obtain ⟨_, _, q, _⟩ := look_ok S1 R1 e3
    cases q
  · obtain ⟨rfl, w', q, r2⟩ := look_ok S1 R1 e3
    cases q
    split at e4
    · cases e4
      have := r2.str
      subst this
      exact ⟨_, rfl, hok _ rfl _ _ _ ⟨S1, T1⟩ itg_str⟩
    · cases e4
theorem ref_iterB {td : TE} {m : Mo RV} (h : RefE K mg ea Wx td m) : RefI K mg ea Wx (iByt td) (mIterB m) := by
  intro σ H io Fr s S0 r0 s' e R hok hex
  refine one2 h S0 e hex fun x v s1 H1 io1 e2 px => ?_
  obtain ⟨S1, T1, R1⟩ := px.settled
  rcases bnd_some e2 with ⟨z, e3, rfl⟩ | ⟨w, s3, e3, e4⟩
  · obtain ⟨_, _, q, _⟩ := look_ok S1 R1 e3
    cases q
  · obtain ⟨rfl, w', q, r2⟩ := look_ok S1 R1 e3
    cases q
    split at e4
    · cases e4
      have := r2.byt
      subst this
      exact ⟨_, rfl, hok _ rfl _ _ _ ⟨S1, T1⟩ itg_byt⟩
    · cases e4
end
section
variable {X : Cx} {ea : EA} {Wx : WX} {e o tg : Expr} {mo me m : Mo RV} {pos apos cpos : Pos} {C p g : Addr} {k : Nat} {fd : FuncData} {ps : List Str} {nm fl : Str} {mf : Fn}
theorem pei_str (h : Pee X ea Wx e m) : Pei X ea Wx tg e (mIterS m) := let ⟨_, q, r⟩ := h.ex; ⟨_, pi_str q, ref_iterS r⟩
theorem pei_byt (h : Pee X ea Wx e m) : Pei X ea Wx tg e (mIterB m) := let ⟨_, q, r⟩ := h.ex; ⟨_, pi_byt q, ref_iterB r⟩
theorem cm_ord : CallM X (.builtin "ord") fOrd := by
  refine ⟨_, call_ord, fun io M H ws vs z Q rx e q => ?_⟩
  unfold fOrd at e
  split at e
  · split at e
    · rename_i x hx
      cases e
      obtain ⟨v, rfl, r⟩ := p1 rx
      have := r.str
      subst this
      exact ⟨x, rfl, hx, q _ (.int _)⟩
    · cases e
  · cases e
theorem pee_zfill {o e : Expr} {mo me : Mo RV} {apos cpos : Pos} (ho : Pee X ea Wx o mo) (he : Pee X ea Wx e me) (hbase : attributeBase o "zfill" X.env (eval o X.env) = eval o X.env := by rfl) (hn : starEach [e] X.env = [(false, eval e X.env)] := by rfl) (hline : (apos.endLine == cpos.line) = true := by rfl) :
    Pee X ea Wx (.Call (.Attribute o "zfill" apos) [e] [] cpos) (mTx1 fZfill mo me) := by
  obtain ⟨t, p, q⟩ := ho.ex
  obtain ⟨t', p', q'⟩ := he.ex
  refine ⟨_, pe_m1 F.slot_str_zfill F.type_str_zfill mt_zfill p p' hn hbase hline, ref_tx1 (fun io M H a y vy z Q ry e q => ?_) q q'⟩
  unfold fZfill at e
  split at e
  · split at e
    · rename_i i fits
      cases e
      have := ry.int
      subst this
      exact ⟨a, i, rfl, rfl, fits, q _ (.str _)⟩
    · cases e
  · cases e
theorem ref_propS {ta : TE} {n : Nat} (hn : n = 1) (hC : X.mg nm = some (.ref C)) (ho : RefE X.K X.mg ea Wx ta mo) : RefE X.K X.mg ea Wx (SlX.tPropSl C (spM X.K X.mg n mf) (fun _ _ _ => False) ta) (mPropS nm mf mo) := by
  intro σ H io Fr s S0 r0 s' e Q hok hex
  refine one2 ho S0 e hex fun x vx s1 H1 io1 e2 px => ?_
  obtain ⟨S1, T1, R1⟩ := px.settled
  rcases bnd_some e2 with ⟨z, e3, _⟩ | ⟨w, s2, e3, e4⟩
  · obtain ⟨_, _, _, _, q, _⟩ := freeze_ok S1 R1 e3
    cases q
  · obtain ⟨_, l2, S2, w', q, R2⟩ := freeze_ok S1 R1 e3
    cases q
    have T2 := T1.less l2
    rcases bnd_some e4 with ⟨z, e5, _⟩ | ⟨u, s3, e5, e6⟩
    · unfold chkS at e5
      split at e5
      · split at e5 <;> cases e5
      · cases e5
    · unfold chkS at e5
      split at e5
      · rename_i nm' fs hd'
        split at e5
        · rename_i hc
          cases e5
          subst hc
          obtain ⟨a, C', dx, us, rfl, hm, h1, h2, rr⟩ := (deref_ok S2 R2 hd').slt
          rw [hC] at hm
          cases hm
          refine ⟨a, dx, us.map some, rfl, .inr ⟨h1, h2⟩, ?_⟩
          unfold quiet at e6
          split at e6
          · rename_i y s4 k4
            cases e6
            have RR : Rws X.K X.mg io1 (Ms io1 Fr s2 σ) H1 [w] [V.ref a] := Rws.cons R2 Rws.nil
            exact spM_use (n := n) (Wx := fun _ _ _ _ => False) (Q := Q) S2 RR (by rw [hn]; rfl) k4 (fun x q v H' io' p => by cases q; exact hok _ rfl v H' io' (p.trans T2)) (fun x q => by cases q)
          · cases e6
        · cases e5
      · cases e5
theorem ref_propO {ta : TE} {n : Nat} (hn : n = 1) (hC : X.mg nm = some (.ref C)) (ho : RefE X.K X.mg ea Wx ta mo) : RefE X.K X.mg ea Wx (tProp C (spM X.K X.mg n mf) [] (fun _ _ _ => False) ta) (mPropO nm mf mo) := by
  intro σ H io Fr s S0 r0 s' e Q hok hex
  refine one2 ho S0 e hex fun x vx s1 H1 io1 e2 px => ?_
  obtain ⟨S1, T1, R1⟩ := px.settled
  rcases bnd_some e2 with ⟨z, e3, _⟩ | ⟨w, s2, e3, e4⟩
  · obtain ⟨_, _, _, _, q, _⟩ := freeze_ok S1 R1 e3
    cases q
  · obtain ⟨_, l2, S2, w', q, R2⟩ := freeze_ok S1 R1 e3
    cases q
    have T2 := T1.less l2
    rcases bnd_some e4 with ⟨z, e5, _⟩ | ⟨u, s3, e5, e6⟩
    · unfold chkOb at e5
      split at e5
      · split at e5 <;> cases e5
      · cases e5
    · unfold chkOb at e5
      split at e5
      · rename_i nm' fs hd'
        split at e5
        · rename_i hc
          cases e5
          subst hc
          obtain ⟨a, C', dx, us, rfl, hm, hH, rk⟩ := (deref_ok S2 R2 hd').obj
          rw [hC] at hm
          cases hm
          refine ⟨a, dx, us, rfl, hH, ?_⟩
          unfold quiet at e6
          split at e6
          · rename_i y s4 k4
            cases e6
            have RR : Rws X.K X.mg io1 (Ms io1 Fr s2 σ) H1 [w] [V.ref a] := Rws.cons R2 Rws.nil
            exact spM_use (n := n) (Wx := fun _ _ _ _ => False) (Q := Q) S2 RR (by rw [hn]; rfl) k4 (fun x q v H' io' p => by cases q; exact hok _ rfl v H' io' (p.trans T2)) (fun x q => by cases q)
          · cases e6
        · cases e5
      · cases e5
theorem cx_none {P : Program} {w : World} {outer : List Env} {H : Hp} {s : Shared} {e : Value} {s' : Shared} (h : L2.CX P w outer H s (fun _ _ _ => False) e s') : False := by
  obtain ⟨_, _, _, _, _, _, _, _, _, _, _, _, q⟩ := h
  exact q
theorem pee_propS (hn : ps.length = 1) (hC : X.mg nm = some (.ref C)) (c : SlX.SCls X.K C) (hp : PropOf X.K C fl p g) (F : FnM X.prog X.w X.K X.mg X.base k g fd ps mf) (hr : Room (k + 1) X.A) (hb : Binds X.K fd ps []) (ho : Pee X ea Wx o mo)
    (hab : attributeBase o fl X.env (eval o X.env) = eval o X.env := by rfl) : Pee X ea Wx (.Attribute o fl pos) (mPropS nm mf mo) := by
  obtain ⟨t, q, r⟩ := ho.ex
  have F' : FnR X.prog X.w X.K X.mg X.base (L2.CX X.prog X.w) k g (spM X.K X.mg ps.length mf) := (F.ok.raw hb .nil).imp fun vs H Q E h => by simpa using h
  exact ⟨_, SlX.pe_propSl q c hp.at_ hp.get hp.tak hp.rec_ F' hr (fun _ _ _ _ => cx_none) hab, ref_propS hn hC r⟩
theorem pee_propO (hn : ps.length = 1) (hC : X.mg nm = some (.ref C)) (c : Cls X.K C) (hp : PropOf X.K C fl p g) (F : FnM X.prog X.w X.K X.mg X.base k g fd ps mf) (hr : Room (k + 1) X.A) (hb : Binds X.K fd ps []) (ho : Pee X ea Wx o mo)
    (hab : attributeBase o fl X.env (eval o X.env) = eval o X.env := by rfl) : Pee X ea Wx (.Attribute o fl pos) (mPropO nm mf mo) := by
  obtain ⟨t, q, r⟩ := ho.ex
  exact ⟨_, pe_prop (sp := spM X.K X.mg ps.length mf) q c hp F.ok hr hb .nil (fun pins σ H s e s' I h => (cx_none h).elim) hab, ref_propO hn hC r⟩
end
section
variable {r : List SV} {G : List Cell} {m mo me : Mo RV} {ms : List (Mo RV)} {acc a x : Str} {b : Array UInt8} {i : Int} {nm : Str} {w : W} {ws : List W} {f : Str → W → Option OR} {mf : Fn}
@[simp] theorem mIterS_e : mIterS m ⟨r, G⟩ = bnd m (fun x => bnd (look (settle x)) fun w => match w with
  | .str x => ret ⟨chrsW x, none⟩
  | _ => stk) ⟨r, G⟩ := rfl
@[simp] theorem mIterB_e : mIterB m ⟨r, G⟩ = bnd m (fun x => bnd (look (settle x)) fun w => match w with
  | .byt x => ret ⟨bytsW x, none⟩
  | _ => stk) ⟨r, G⟩ := rfl
@[simp] theorem fOrd_e : fOrd [.str x] = if x.length = 1 then some (.imm (.int (x.cps.getD 0 0 : Nat))) else none := rfl
@[simp] theorem fZfill_e : fZfill a (.int i) = if PadOk i = true then some (.imm (.str (Txt.zfill a i))) else none := rfl
@[simp] theorem chkS_e {n' : Str} : chkS nm (.slt n' ws) ⟨r, G⟩ = if n' = nm then some (.ok (), ⟨r, G⟩) else none := rfl
@[simp] theorem mPropS_e : mPropS nm mf mo ⟨r, G⟩ = bnd mo (fun x => bnd (freeze (settle x)) fun w => bnd (chkS nm w) fun _ => quiet (callG mf [w])) ⟨r, G⟩ := rfl
@[simp] theorem mPropO_e : mPropO nm mf mo ⟨r, G⟩ = bnd mo (fun x => bnd (freeze (settle x)) fun w => bnd (chkOb nm w) fun _ => quiet (callG mf [w])) ⟨r, G⟩ := rfl
@[simp] theorem mJs_nil : mJs [] acc ⟨r, G⟩ = some (.ok (.val (.str acc)), ⟨r, G⟩) := rfl
@[simp] theorem mJs_cons : mJs (m :: ms) acc ⟨r, G⟩ = bnd m (fun x => match x with
    | .val (.str y) => if (acc ++ y).length ≤ sz then mJs ms (acc ++ y) else stk
    | _ => stk) ⟨r, G⟩ := rfl
@[simp] theorem mTx1_e : mTx1 f mo me ⟨r, G⟩ = bnd mo (fun x => bnd (look (settle x)) fun wx => match wx with
  | .str a => bnd me fun y => bnd (look (settle y)) fun wy => liftO (f a wy)
  | _ => stk) ⟨r, G⟩ := rfl
@[simp] theorem freeze_slt : freeze (.val (.slt nm ws)) ⟨r, G⟩ = some (.ok (.slt nm ws), ⟨r, G⟩) := rfl
end
end Z

set_option linter.all false
set_option Elab.async false
set_option maxRecDepth 100000
/-! Z46: whole numbers as digits, padded with noughts; joined; as bytes. -/
namespace Z
open PySem PySem.Spec PyProof.Rows L2
def cod (x : Str) : List Nat := x.cps.toList
theorem cod_ext {x y : Str} (h : cod x = cod y) : x = y := Str.ext' (Array.toList_inj.mp h)
theorem cod_app (x y : Str) : cod (x ++ y) = cod x ++ cod y := W.KT.app_list x y
theorem cod_len (x : Str) : (cod x).length = x.length := Array.length_toList
theorem cod_empty : cod Str.empty = [] := rfl
def dgs (n : Nat) : List Nat := (Nat.toDigits 10 n).map Char.toNat
theorem dgs_mem {n c : Nat} (h : c ∈ dgs n) : 48 ≤ c ∧ c ≤ 57 := by
  obtain ⟨ch, hm, rfl⟩ := List.mem_map.mp h
  have := Nat.isDigit_of_mem_toDigits (by decide) (by decide) hm
  unfold Char.isDigit at this
  simp only [Bool.and_eq_true, decide_eq_true_eq] at this
  exact ⟨UInt32.le_iff_toNat_le.mp this.1, UInt32.le_iff_toNat_le.mp this.2⟩
theorem dgs_pos (n : Nat) : 1 ≤ (dgs n).length := by
  unfold dgs
  rw [List.length_map]
  exact tDigits_len_ge 10 n
theorem dgs_le {k n : Nat} (hk : 1 ≤ k) (hn : n < 10 ^ k) : (dgs n).length ≤ k := by
  unfold dgs
  rw [List.length_map]
  exact digits10_le hk hn
/-- a number's text -/
def numT (n : Nat) : Str := Str.ofString (toString (n : Int))
theorem cod_num (n : Nat) : cod (numT n) = dgs n := by
  unfold numT
  rw [show (n : Int) = Int.ofNat n from rfl, text_ofNat n]
  rfl
/-- k digits at least -/
def zT (k n : Nat) : Str := ⟨(List.replicate (k - (dgs n).length) 48 ++ dgs n).toArray⟩
theorem cod_z (k n : Nat) : cod (zT k n) = List.replicate (k - (dgs n).length) 48 ++ dgs n := rfl
theorem cod_z_mem {k n c : Nat} (h : c ∈ cod (zT k n)) : 48 ≤ c ∧ c ≤ 57 := by
  rw [cod_z] at h
  rcases List.mem_append.mp h with h | h
  · rw [(List.mem_replicate.mp h).2]
    decide
  · exact dgs_mem h
theorem z_len {k n : Nat} (hk : 1 ≤ k) (hn : n < 10 ^ k) : (cod (zT k n)).length = k := by
  have := dgs_le hk hn
  rw [cod_z, List.length_append, List.length_replicate]
  omega
theorem z_one (n : Nat) : zT 1 n = numT n := cod_ext (by
  have := dgs_pos n
  rw [cod_z, cod_num, show 1 - (dgs n).length = 0 by omega]
  rfl)
theorem spec_z (k n : Nat) : intSpecText (specZ k) (n : Int) = zT k n := by
  rw [intSpecText_zero rfl rfl rfl rfl (by omega)]
  refine cod_ext ?_
  rw [cod_app]
  show _ ++ cod (numT n) = _
  rw [cod_num, cod_z]
  unfold dgs
  rw [List.length_map]
  rfl
theorem zfill_z (k n : Nat) : Txt.zfill (numT n) (k : Int) = zT k n := by
  have hl : (numT n).length = (dgs n).length := by rw [← cod_len, cod_num]
  have hp := dgs_pos n
  unfold Txt.zfill
  refine cod_ext ?_
  by_cases h : (k : Int) ≤ (numT n).length
  · rw [if_pos h, cod_num, cod_z, show k - (dgs n).length = 0 by omega]
    rfl
  · rw [if_neg h]
    have hz : cod (Builtin.Str.padded (numT n) ((k : Int).toNat - (numT n).length) 0 48) = cod (zT k n) := by
      unfold Builtin.Str.padded cod
      simp only [Array.toList_append, Array.toList_replicate, List.replicate_zero, List.append_nil]
      rw [show (numT n).cps.toList = dgs n from cod_num n, hl]
      rfl
    unfold zfilled
    have h0 : (numT n).cps[0]? = (dgs n)[0]? := by rw [← cod_num n]; unfold cod; simp
    have h1 : (dgs n)[0]? = some ((dgs n)[0]'(by omega)) := List.getElem?_eq_getElem _
    have h2 := dgs_mem (List.getElem_mem (l := dgs n) (n := 0) (by omega))
    split
    · rename_i e; rw [h0, h1] at e; have := Option.some.inj e; omega
    · rename_i e; rw [h0, h1] at e; have := Option.some.inj e; omega
    · exact hz
theorem cod_glued : ∀ ys : List Str, cod (Txt.join Str.empty ys) = (ys.map cod).flatten := by
  intro ys
  have fold : ∀ (l : List Str) (a : Array Nat), (l.foldl (fun acc p => acc ++ (Str.empty).cps ++ p.cps) a).toList = a.toList ++ (l.map cod).flatten := by
    intro l
    induction l with
    | nil => intro a; simp
    | cons x l ih =>
      intro a
      rw [List.foldl_cons, ih]
      simp [cod, Str.empty]
  cases ys with
  | nil => rfl
  | cons y ys =>
    show ((ys.foldl _ y.cps)).toList = _
    rw [fold]
    rfl
theorem cod_foldl (ys : List Str) : ∀ x : Str, cod (ys.foldl (· ++ ·) x) = cod x ++ (ys.map cod).flatten := by
  induction ys with
  | nil => intro x; simp
  | cons y ys ih =>
    intro x
    rw [List.foldl_cons, ih, cod_app]
    simp
/-- the same text: glued behind another, or added one by one -/
theorem glue_add (ys : List Str) (x : Str) : x ++ Txt.join Str.empty ys = ys.foldl (· ++ ·) x := cod_ext (by rw [cod_app, cod_glued, cod_foldl])
theorem empty_app (x : Str) : Str.empty ++ x = x := cod_ext (by rw [cod_app]; rfl)
def dig (x : Str) : Prop := ∀ c ∈ cod x, 48 ≤ c ∧ c ≤ 57
theorem dig_num (n : Nat) : dig (numT n) := fun c h => dgs_mem (cod_num n ▸ h)
theorem dig_z (k n : Nat) : dig (zT k n) := fun c h => cod_z_mem h
theorem dig.app {x y : Str} (h : dig x) (k : dig y) : dig (x ++ y) := fun c m => by
  rw [cod_app] at m
  exact (List.mem_append.mp m).elim (h c) (k c)
theorem dig_fold {ys : List Str} {x : Str} (h : dig x) (k : ∀ y ∈ ys, dig y) : dig (ys.foldl (· ++ ·) x) := fun c m => by
  rw [cod_foldl] at m
  rcases List.mem_append.mp m with m | m
  · exact h c m
  · obtain ⟨l, hl, hc⟩ := List.mem_flatten.mp m
    obtain ⟨y, hy, rfl⟩ := List.mem_map.mp hl
    exact k y hy c hc
theorem dig.asc {x : Str} (h : dig x) : (x.cps.toList.all fun c => decide (c < 128)) = true := List.all_eq_true.mpr fun c m => decide_eq_true (by have := h c m; omega)
theorem len_app (x y : Str) : (x ++ y).length = x.length + y.length := by rw [← cod_len, cod_app, List.length_append, cod_len, cod_len]
theorem len_foldl (ys : List Str) (x : Str) : (ys.foldl (· ++ ·) x).length = x.length + (ys.map (·.length)).sum := by
  rw [← cod_len, cod_foldl, List.length_append, cod_len, List.length_flatten, List.map_map]
  congr 2
theorem num_len {k n : Nat} (hk : 1 ≤ k) (hn : n < 10 ^ k) : (numT n).length ≤ k := by rw [← cod_len, cod_num]; exact dgs_le hk hn
theorem zT_len {k n : Nat} (hk : 1 ≤ k) (hn : n < 10 ^ k) : (zT k n).length = k := by rw [← cod_len]; exact z_len hk hn
theorem enc_size (x : Str) : (W.KSb.enc x).size = x.length := by
  unfold W.KSb.enc
  rw [List.size_toArray, List.length_map]
  rfl
/-- the bytes of a text of digits are its signs' numbers -/
theorem enc_byts {x : Str} (h : dig x) : bytsW (W.KSb.enc x) = (cod x).map fun (c : Nat) => W.int (c : Int) := by
  unfold bytsW W.KSb.enc
  rw [List.map_map]
  refine List.map_congr_left fun c m => ?_
  have := h c m
  show W.int ((c.toUInt8.toNat : Nat) : Int) = _
  have e : c.toUInt8.toNat = c := by
    show (UInt8.ofNat c).toNat = c
    rw [UInt8.toNat_ofNat']
    omega
  rw [e]
end Z

set_option Elab.async false
set_option linter.all false
set_option maxRecDepth 100000
set_option maxHeartbeats 4000000
namespace Z
open PySem PySem.Spec PyProof.Rows L2
def top (i : Nat) : Stmt := PySem.Challenge.pw_partkeepers_k10_packed_letters.main.body.getD i (.Pass ⟨0, 0, 0, 0⟩)
abbrev s__law_numbers : Stmt := top 6
abbrev s__law_row : Stmt := top 7
abbrev s__law_rows : Stmt := top 8
abbrev s__law_cell : Stmt := top 5
abbrev s__law_known : Stmt := top 13
abbrev s__law_triples : Stmt := top 10
abbrev s__law_counts : Stmt := top 11
abbrev s__law_lines : Stmt := top 9
abbrev s__law_carried : Stmt := top 14
abbrev s__law_letter : Stmt := top 18
abbrev s_Letter___init__ : Stmt := inClass (top 1) 1
abbrev s_Letter_number : Stmt := inClass (top 1) 2
abbrev s__law_is_int : Stmt := top 4
abbrev s__law_same_rows : Stmt := top 12
abbrev s__law_same_letter : Stmt := top 17
abbrev s__law_same_bytes : Stmt := top 16
abbrev s__law_digits : Stmt := top 15
abbrev s_pack : Stmt := top 2
abbrev s_law : Stmt := top 19
def ti_bool : List (CT × Bool) := [(.ty "NoneType", false), (.ty "bool", true), (.ty "int", false), (.ty "str", false), (.ty "bytes", false), (.ty "tuple", false), (.ty "list", false), (.ty "dict", false)]
def ti_int : List (CT × Bool) := [(.ty "NoneType", false), (.ty "bool", true), (.ty "int", true), (.ty "str", false), (.ty "bytes", false), (.ty "tuple", false), (.ty "list", false), (.ty "dict", false)]
def ti_list : List (CT × Bool) := [(.ty "NoneType", false), (.ty "bool", false), (.ty "int", false), (.ty "str", false), (.ty "bytes", false), (.ty "tuple", false), (.ty "list", true), (.ty "dict", false)]
def ti_str : List (CT × Bool) := [(.ty "NoneType", false), (.ty "bool", false), (.ty "int", false), (.ty "str", true), (.ty "bytes", false), (.ty "tuple", false), (.ty "list", false), (.ty "dict", false)]
def ti_tuple : List (CT × Bool) := [(.ty "NoneType", false), (.ty "bool", false), (.ty "int", false), (.ty "str", false), (.ty "bytes", false), (.ty "tuple", true), (.ty "list", false), (.ty "dict", false)]
def sl_counts : List (Str × Nat) := [("Letter", 0)]
def sl_key : List (Str × Nat) := [("Letter", 1)]
def sl_sender : List (Str × Nat) := [("Letter", 2)]
def sl_taker : List (Str × Nat) := [("Letter", 3)]
def sl_value : List (Str × Nat) := [("Letter", 4)]
structure Tx (K : PySem.W.Frag) (mg : Str → Option Value) where
  C_Letter : Addr
  f__law_numbers : Addr
  f__law_row : Addr
  f__law_rows : Addr
  f__law_cell : Addr
  f__law_known : Addr
  f__law_triples : Addr
  f__law_counts : Addr
  f__law_lines : Addr
  f__law_carried : Addr
  f__law_letter : Addr
  f_Letter___init__ : Addr
  f_Letter_number : Addr
  f__law_is_int : Addr
  f__law_same_rows : Addr
  f__law_same_letter : Addr
  f__law_same_bytes : Addr
  f__law_digits : Addr
  f_pack : Addr
  f_law : Addr
  fd__law_numbers : FuncData
  fd__law_row : FuncData
  fd__law_rows : FuncData
  fd__law_cell : FuncData
  fd__law_known : FuncData
  fd__law_triples : FuncData
  fd__law_counts : FuncData
  fd__law_lines : FuncData
  fd__law_carried : FuncData
  fd__law_letter : FuncData
  fd_Letter___init__ : FuncData
  fd_Letter_number : FuncData
  fd__law_is_int : FuncData
  fd__law_same_rows : FuncData
  fd__law_same_letter : FuncData
  fd__law_same_bytes : FuncData
  fd__law_digits : FuncData
  fd_pack : FuncData
  fd_law : FuncData
  pr_Letter_number : Addr
  n_all : mg "all" = none
  n_bool : mg "bool" = none
  n_int : mg "int" = none
  n_isinstance : mg "isinstance" = none
  n_len : mg "len" = none
  n_list : mg "list" = none
  n_ord : mg "ord" = none
  n_range : mg "range" = none
  n_str : mg "str" = none
  n_tuple : mg "tuple" = none
  c_Letter : mg "Letter" = some (.ref C_Letter)
  kp_Letter : PySem.W.keepIn K (.ref C_Letter) = true
  sc_Letter : SlX.SCls K C_Letter
  mk_Letter : PySem.W.makesIn K C_Letter = true
  sl5_Letter : Sl5 K C_Letter "sender" "taker" "key" "value" "counts"
  sl_counts : SlN K mg sl_counts "counts"
  sl_key : SlN K mg sl_key "key"
  sl_sender : SlN K mg sl_sender "sender"
  sl_taker : SlN K mg sl_taker "taker"
  sl_value : SlN K mg sl_value "value"
  pp_Letter_number : PropOf K C_Letter "number" pr_Letter_number f_Letter_number
  ist_bool : IsTab K mg (.type "bool") ti_bool
  ist_int : IsTab K mg (.type "int") ti_int
  ist_list : IsTab K mg (.type "list") ti_list
  ist_str : IsTab K mg (.type "str") ti_str
  ist_tuple : IsTab K mg (.type "tuple") ti_tuple
  F__law_numbers : Fun K "_law_numbers" "_law_numbers" s__law_numbers f__law_numbers fd__law_numbers
  b__law_numbers : Binds K fd__law_numbers ["_law_cell_here", "_law_salt", "_law_limits"] []
  g__law_numbers : mg "_law_numbers" = some (.ref f__law_numbers)
  F__law_row : Fun K "_law_row" "_law_row" s__law_row f__law_row fd__law_row
  b__law_row : Binds K fd__law_row ["_law_kind", "_law_copy", "_law_many", "_law_number"] []
  g__law_row : mg "_law_row" = some (.ref f__law_row)
  F__law_rows : Fun K "_law_rows" "_law_rows" s__law_rows f__law_rows fd__law_rows
  b__law_rows : Binds K fd__law_rows ["_law_cell_here", "_law_least", "_law_top"] []
  g__law_rows : mg "_law_rows" = some (.ref f__law_rows)
  F__law_cell : Fun K "_law_cell" "_law_cell" s__law_cell f__law_cell fd__law_cell
  b__law_cell : Binds K fd__law_cell ["_law_script", "_law_k"] []
  g__law_cell : mg "_law_cell" = some (.ref f__law_cell)
  F__law_known : Fun K "_law_known" "_law_known" s__law_known f__law_known fd__law_known
  b__law_known : Binds K fd__law_known ["_law_counts_here"] []
  g__law_known : mg "_law_known" = some (.ref f__law_known)
  F__law_triples : Fun K "_law_triples" "_law_triples" s__law_triples f__law_triples fd__law_triples
  b__law_triples : Binds K fd__law_triples ["_law_many"] []
  g__law_triples : mg "_law_triples" = some (.ref f__law_triples)
  F__law_counts : Fun K "_law_counts" "_law_counts" s__law_counts f__law_counts fd__law_counts
  b__law_counts : Binds K fd__law_counts ["_law_cell_here", "_law_many"] []
  g__law_counts : mg "_law_counts" = some (.ref f__law_counts)
  F__law_lines : Fun K "_law_lines" "_law_lines" s__law_lines f__law_lines fd__law_lines
  b__law_lines : Binds K fd__law_lines ["_law_rows_here"] []
  g__law_lines : mg "_law_lines" = some (.ref f__law_lines)
  F__law_carried : Fun K "_law_carried" "_law_carried" s__law_carried f__law_carried fd__law_carried
  b__law_carried : Binds K fd__law_carried ["_law_lines_here", "_law_known_here", "_law_sender", "_law_taker"] []
  g__law_carried : mg "_law_carried" = some (.ref f__law_carried)
  F__law_letter : Fun K "_law_letter" "_law_letter" s__law_letter f__law_letter fd__law_letter
  b__law_letter : Binds K fd__law_letter ["_law_rows_here", "_law_known_here", "_law_cell_here"] []
  g__law_letter : mg "_law_letter" = some (.ref f__law_letter)
  F_Letter___init__ : Fun K "__init__" "Letter.__init__" s_Letter___init__ f_Letter___init__ fd_Letter___init__
  b_Letter___init__ : Binds K fd_Letter___init__ ["self", "sender", "taker", "key", "value", "counts"] []
  mt_Letter___init__ : Meth K C_Letter "__init__" f_Letter___init__
  F_Letter_number : Fun K "number" "Letter.number" s_Letter_number f_Letter_number fd_Letter_number
  b_Letter_number : Binds K fd_Letter_number ["self"] []
  F__law_is_int : Fun K "_law_is_int" "_law_is_int" s__law_is_int f__law_is_int fd__law_is_int
  b__law_is_int : Binds K fd__law_is_int ["_law_given"] []
  g__law_is_int : mg "_law_is_int" = some (.ref f__law_is_int)
  F__law_same_rows : Fun K "_law_same_rows" "_law_same_rows" s__law_same_rows f__law_same_rows fd__law_same_rows
  b__law_same_rows : Binds K fd__law_same_rows ["_law_told", "_law_due"] []
  g__law_same_rows : mg "_law_same_rows" = some (.ref f__law_same_rows)
  F__law_same_letter : Fun K "_law_same_letter" "_law_same_letter" s__law_same_letter f__law_same_letter fd__law_same_letter
  b__law_same_letter : Binds K fd__law_same_letter ["_law_told", "_law_letter_here"] []
  g__law_same_letter : mg "_law_same_letter" = some (.ref f__law_same_letter)
  F__law_same_bytes : Fun K "_law_same_bytes" "_law_same_bytes" s__law_same_bytes f__law_same_bytes fd__law_same_bytes
  b__law_same_bytes : Binds K fd__law_same_bytes ["_law_data", "_law_text"] []
  g__law_same_bytes : mg "_law_same_bytes" = some (.ref f__law_same_bytes)
  F__law_digits : Fun K "_law_digits" "_law_digits" s__law_digits f__law_digits fd__law_digits
  b__law_digits : Binds K fd__law_digits ["_law_letter_here"] []
  g__law_digits : mg "_law_digits" = some (.ref f__law_digits)
  F_pack : Fun K "pack" "pack" s_pack f_pack fd_pack
  b_pack : Binds K fd_pack ["letter"] []
  g_pack : mg "pack" = some (.ref f_pack)
  F_law : Fun K "law" "law" s_law f_law fd_law
  b_law : Binds K fd_law ["_law_script"] []
section
variable {P : Program} {w : World} {K : PySem.W.Frag} {mg : Str → Option Value} {base : Heap}
theorem sc__law_numbers : FnScope ["_law_cell_here", "_law_salt", "_law_limits", "_law_rest", "_law_found", "_law_limit"] ["_law_cell_here", "_law_salt", "_law_limits"] (defScope s__law_numbers) := ⟨rfl, rfl, rfl, by decide +kernel, rfl, by decide +kernel, by decide +kernel⟩
noncomputable def b__law_numbers : Mo Fl := mSeq (mAsg 3 (mName 0)) (mSeq (mAsg 4 (mLst mNil)) (mSeq (mFor (mIter (mName 2)) (tgN 5) (mIf (mB (mBin fLt (mName 0) (mBin fPow (mC (.int 10)) (mC (.int 18))))) (mSeq (mAsg 3 (mBin fMod (mCB fInt1 (mCons (mBin fAdd (mBin fAdd (mBin fMul (mName 3) (mC (.int 75))) (mC (.int 74))) (mName 1)) mNil)) (mC (.int 65537)))) (mDrop (mMut .lst fAppend (mName 4) (mCons (mBin fMod (mCB fInt1 (mCons (mBin fDiv (mName 3) (mC (.int 7))) mNil)) (mName 5)) mNil)))) (mSeq (mDrop (mMut .lst fAppend (mName 4) (mCons (mBin fMod (mCB fInt1 (mCons (mName 3) mNil)) (mName 5)) mNil))) (mAsg 3 (mBin fDiv (mName 3) (mName 5)))))) (mRet (mName 4))))
noncomputable def m__law_numbers : Fn := fnM 6 b__law_numbers
theorem ok__law_numbers (T : Tx K mg) : FnM P w K mg base 1 T.f__law_numbers T.fd__law_numbers ["_law_cell_here", "_law_salt", "_law_limits"] m__law_numbers := have sc := sc__law_numbers; defM2 T.F__law_numbers sc rfl fun cdv A outer s H E hr hu tk pa => pess_cons (pes_set 3 sc.nd (pee_name 0)) (pess_cons (pes_set 4 sc.nd (pee_lst pea_nil)) (pess_cons (pes_for pa (pei_seq (pee_name 2)) (peg_name 5 sc.nd) (pess_one (pes_if (pet_cmp om_lt (pee_name 0) (pee_op om_pow pee_int pee_int)) (pess_cons (pes_set 3 sc.nd (pee_op om_mod (pee_ct cm_int T.n_int (pea_cons (pee_op om_add (pee_op om_add (pee_op om_mul (pee_name 3) pee_int) pee_int) (pee_name 1)) pea_nil)) pee_int)) (pess_one (pes_expr (pee_mut (k := .lst) PySem.F.plainAttrs_list PySem.F.slot_list_append PySem.F.type_list_append mt_append mu_append (pee_name 4) (pea_cons (pee_op om_mod (pee_ct cm_int T.n_int (pea_cons (pee_op om_div (pee_name 3) pee_int) pea_nil)) (pee_name 5)) pea_nil))))) (pess_cons (pes_expr (pee_mut (k := .lst) PySem.F.plainAttrs_list PySem.F.slot_list_append PySem.F.type_list_append mt_append mu_append (pee_name 4) (pea_cons (pee_op om_mod (pee_ct cm_int T.n_int (pea_cons (pee_name 3) pea_nil)) (pee_name 5)) pea_nil))) (pess_one (pes_set 3 sc.nd (pee_op om_div (pee_name 3) (pee_name 5)))))))) (pess_one (pes_ret (pee_name 4)))))
theorem sc__law_row : FnScope ["_law_kind", "_law_copy", "_law_many", "_law_number", "_law_mine", "_law_size", "_law_key"] ["_law_kind", "_law_copy", "_law_many", "_law_number"] (defScope s__law_row) := ⟨rfl, rfl, rfl, by decide +kernel, rfl, by decide +kernel, by decide +kernel⟩
noncomputable def b__law_row : Mo Fl := mSeq (mIf (mOr (mB (mBin fEqD (mName 0) (mC (.int 0)))) (mB (mBin fEqD (mName 0) (mC (.int 5))))) (mSeq (mAsg 5 (mIfE (mB (mBin fEqD (mName 0) (mC (.int 0)))) (mC (.int 8)) (mC (.int 3)))) (mRet (mLc [6] (mRng1 (mCons (mName 5) mNil)) (tgN 6) (mB (mBin fEqD (mBin fMod (mCB fInt1 (mCons (mBin fShr (mName 3) (mName 6)) mNil)) (mC (.int 2))) (mC (.int 1)))) (mName 6)))) mNext) (mSeq (mAsg 4 (mLst (mCons (mBin fMod (mCB fInt1 (mCons (mBin fDiv (mName 3) (mC (.int 8))) mNil)) (mC (.int 8))) mNil))) (mSeq (mIf (mB (mBin fEqD (mName 0) (mC (.int 1)))) (mAsg 4 (mLst (mCons (mName 1) (mCons (mBin fAdd (mName 1) (mC (.int 1))) mNil)))) mNext) (mSeq (mIf (mB (mBin fEqD (mName 0) (mC (.int 2)))) (mAsg 4 (mIfE (mB (mBin fEqD (mName 1) (mC (.int 0)))) (mUn fLr1 (mBin fSub (mName 2) (mC (.int 1)))) (mLst (mCons (mBin fSub (mName 1) (mC (.int 1))) mNil)))) mNext) (mSeq (mIf (mB (mBin fEqD (mName 0) (mC (.int 4)))) (mAsg 4 (mLst (mCons (mName 1) (mCons (mBin fMod (mCB fInt1 (mCons (mBin fAdd (mName 1) (mC (.int 1))) mNil)) (mName 2)) mNil)))) mNext) (mSeq (mIf (mOr (mB (mBin fEqD (mName 0) (mC (.int 3)))) (mB (mBin fEqD (mBin fMod (mCB fInt1 (mCons (mBin fDiv (mName 3) (mC (.int 8))) mNil)) (mC (.int 4))) (mC (.int 0))))) (mAsg 4 (mBin fAdd (mName 4) (mLst (mCons (mBin fMod (mCB fInt1 (mCons (mName 3) mNil)) (mC (.int 8))) mNil)))) mNext) (mRet (mLc [6] (mRng1 (mCons (mC (.int 8)) mNil)) (tgN 6) (mB (mBin (fIn false) (mName 6) (mName 4))) (mName 6))))))))
noncomputable def m__law_row : Fn := fnM 7 b__law_row
theorem ok__law_row (T : Tx K mg) : FnM P w K mg base 1 T.f__law_row T.fd__law_row ["_law_kind", "_law_copy", "_law_many", "_law_number"] m__law_row := have sc := sc__law_row; defM2 T.F__law_row sc rfl fun cdv A outer s H E hr hu tk pa => pess_cons (pes_if ((pew_or (pet_cmp (om_eqD (hu64 hu)) (pee_name 0) pee_int) (pew_or1 (pet_cmp (om_eqD (hu64 hu)) (pee_name 0) pee_int))).pt) (pess_cons (pes_set 5 sc.nd (pee_ife (pet_cmp (om_eqD (hu64 hu)) (pee_name 0) pee_int) pee_int pee_int)) (pess_one (pes_ret (pee_lc sc.nd (own := [("_law_key", 6)]) (l := [6]) (pei_rng1 T.n_range (pea_cons (pee_name 5) pea_nil)) ⟨⟨rfl, by first | decide +kernel | (dsimp only [cxOf, envOfC, compEnvC, relabel]; decide +kernel) | exact of_decide_eq_true (by kernel_rfl), by first | decide +kernel | (dsimp only [cxOf, envOfC, compEnvC, relabel]; decide +kernel) | exact of_decide_eq_true (by kernel_rfl), by first | decide +kernel | (dsimp only [cxOf, envOfC, compEnvC, relabel]; decide +kernel) | exact of_decide_eq_true (by kernel_rfl), by first | decide +kernel | (dsimp only [cxOf, envOfC, compEnvC, relabel]; decide +kernel) | exact of_decide_eq_true (by kernel_rfl)⟩, (tgN_ne _), by decide, fun _ _ _ _ _ => by exact peg_name 6 sc.nd, fun _ _ _ _ _ => by exact pets_one (pet_cmp (om_eqD (hu64 hu)) (pee_op om_mod (pee_ct cm_int T.n_int (pea_cons (pee_op om_shr (pee_name 3) (pee_name 6)) pea_nil)) pee_int) pee_int), fun _ _ _ _ _ => by exact pee_name 6⟩)))) pess_nil) (pess_cons (pes_set 4 sc.nd (pee_lst (pea_cons (pee_op om_mod (pee_ct cm_int T.n_int (pea_cons (pee_op om_div (pee_name 3) pee_int) pea_nil)) pee_int) pea_nil))) (pess_cons (pes_if (pet_cmp (om_eqD (hu64 hu)) (pee_name 0) pee_int) (pess_one (pes_set 4 sc.nd (pee_lst (pea_cons (pee_name 1) (pea_cons (pee_op om_add (pee_name 1) pee_int) pea_nil))))) pess_nil) (pess_cons (pes_if (pet_cmp (om_eqD (hu64 hu)) (pee_name 0) pee_int) (pess_one (pes_set 4 sc.nd (pee_ife (pet_cmp (om_eqD (hu64 hu)) (pee_name 1) pee_int) (pee_lr1 T.n_list T.n_range (pee_op om_sub (pee_name 2) pee_int)) (pee_lst (pea_cons (pee_op om_sub (pee_name 1) pee_int) pea_nil))))) pess_nil) (pess_cons (pes_if (pet_cmp (om_eqD (hu64 hu)) (pee_name 0) pee_int) (pess_one (pes_set 4 sc.nd (pee_lst (pea_cons (pee_name 1) (pea_cons (pee_op om_mod (pee_ct cm_int T.n_int (pea_cons (pee_op om_add (pee_name 1) pee_int) pea_nil)) (pee_name 2)) pea_nil))))) pess_nil) (pess_cons (pes_if ((pew_or (pet_cmp (om_eqD (hu64 hu)) (pee_name 0) pee_int) (pew_or1 (pet_cmp (om_eqD (hu64 hu)) (pee_op om_mod (pee_ct cm_int T.n_int (pea_cons (pee_op om_div (pee_name 3) pee_int) pea_nil)) pee_int) pee_int))).pt) (pess_one (pes_set 4 sc.nd (pee_op om_add (pee_name 4) (pee_lst (pea_cons (pee_op om_mod (pee_ct cm_int T.n_int (pea_cons (pee_name 3) pea_nil)) pee_int) pea_nil))))) pess_nil) (pess_one (pes_ret (pee_lc sc.nd (own := [("_law_key", 6)]) (l := [6]) (pei_rng1 T.n_range (pea_cons pee_int pea_nil)) ⟨⟨rfl, by first | decide +kernel | (dsimp only [cxOf, envOfC, compEnvC, relabel]; decide +kernel) | exact of_decide_eq_true (by kernel_rfl), by first | decide +kernel | (dsimp only [cxOf, envOfC, compEnvC, relabel]; decide +kernel) | exact of_decide_eq_true (by kernel_rfl), by first | decide +kernel | (dsimp only [cxOf, envOfC, compEnvC, relabel]; decide +kernel) | exact of_decide_eq_true (by kernel_rfl), by first | decide +kernel | (dsimp only [cxOf, envOfC, compEnvC, relabel]; decide +kernel) | exact of_decide_eq_true (by kernel_rfl)⟩, (tgN_ne _), by decide, fun _ _ _ _ _ => by exact peg_name 6 sc.nd, fun _ _ _ _ _ => by exact pets_one (pet_cmp (om_in (hu65 hu)) (pee_name 6) (pee_name 4)), fun _ _ _ _ _ => by exact pee_name 6⟩))))))))
theorem sc__law_rows : FnScope ["_law_cell_here", "_law_least", "_law_top", "_law_numbers_here", "_law_many", "_law_copy"] ["_law_cell_here", "_law_least", "_law_top"] (defScope s__law_rows) := ⟨rfl, rfl, rfl, by decide +kernel, rfl, by decide +kernel, by decide +kernel⟩
noncomputable def b__law_rows : Mo Fl := mSeq (mAsg 3 (mCall 3 m__law_numbers (mCons (mName 0) (mCons (mC (.int 1)) (mCons (mBin fAdd (mLst (mCons (mC (.int 6)) (mCons (mBin fSub (mBin fAdd (mC (.int 1)) (mName 2)) (mName 1)) mNil))) (mBin fMul (mLst (mCons (mC (.int 256)) mNil)) (mC (.int 6)))) mNil))))) (mSeq (mAsg 4 (mBin fAdd (mName 1) (mBin fIx (mName 3) (mC (.int 1))))) (mRet (mLc [5] (mRng1 (mCons (mName 4) mNil)) (tgN 5) mYes (mCall 4 m__law_row (mCons (mBin fIx (mName 3) (mC (.int 0))) (mCons (mName 5) (mCons (mName 4) (mCons (mBin fIx (mName 3) (mBin fAdd (mC (.int 2)) (mName 5))) mNil))))))))
noncomputable def m__law_rows : Fn := fnM 6 b__law_rows
theorem ok__law_rows (T : Tx K mg) : FnM P w K mg base 2 T.f__law_rows T.fd__law_rows ["_law_cell_here", "_law_least", "_law_top"] m__law_rows := have sc := sc__law_rows; defM2 T.F__law_rows sc rfl fun cdv A outer s H E hr hu tk pa => pess_cons (pes_set 3 sc.nd (pee_callN rfl (ok__law_numbers T) (hr.mono (by decide)) T.g__law_numbers T.F__law_numbers.kp T.b__law_numbers tk (pea_cons (pee_name 0) (pea_cons pee_int (pea_cons (pee_op om_add (pee_lst (pea_cons pee_int (pea_cons (pee_op om_sub (pee_op om_add pee_int (pee_name 2)) (pee_name 1)) pea_nil))) (pee_op om_mul (pee_lst (pea_cons pee_int pea_nil)) pee_int)) pea_nil))))) (pess_cons (pes_set 4 sc.nd (pee_op om_add (pee_name 1) (pee_ix (xm_ix (hu1 hu)) (pee_name 3) pee_int))) (pess_one (pes_ret (pee_lc sc.nd (own := [("_law_copy", 5)]) (l := [5]) (pei_rng1 T.n_range (pea_cons (pee_name 4) pea_nil)) ⟨⟨rfl, by first | decide +kernel | (dsimp only [cxOf, envOfC, compEnvC, relabel]; decide +kernel) | exact of_decide_eq_true (by kernel_rfl), by first | decide +kernel | (dsimp only [cxOf, envOfC, compEnvC, relabel]; decide +kernel) | exact of_decide_eq_true (by kernel_rfl), by first | decide +kernel | (dsimp only [cxOf, envOfC, compEnvC, relabel]; decide +kernel) | exact of_decide_eq_true (by kernel_rfl), by first | decide +kernel | (dsimp only [cxOf, envOfC, compEnvC, relabel]; decide +kernel) | exact of_decide_eq_true (by kernel_rfl)⟩, (tgN_ne _), by decide, fun _ _ _ _ _ => by exact peg_name 5 sc.nd, fun _ _ _ _ _ => by exact pets_nil, fun _ _ _ _ _ => by exact pee_callN rfl (ok__law_row T) (hr.mono (by decide)) T.g__law_row T.F__law_row.kp T.b__law_row tk0 (pea_cons (pee_ix (xm_ix (hu1 hu)) (pee_name 3) pee_int) (pea_cons (pee_name 5) (pea_cons (pee_name 4) (pea_cons (pee_ix (xm_ix (hu1 hu)) (pee_name 3) (pee_op om_add pee_int (pee_name 5))) pea_nil))))⟩))))
theorem sc__law_cell : FnScope ["_law_script", "_law_k"] ["_law_script", "_law_k"] (defScope s__law_cell) := ⟨rfl, rfl, rfl, by decide +kernel, rfl, by decide +kernel, by decide +kernel⟩
noncomputable def b__law_cell : Mo Fl := mSeq (mIf (mB (mBin fLt (mName 1) (mCB fLen (mCons (mName 0) mNil)))) (mRet (mBin fIx (mName 0) (mName 1))) mNext) (mRet (mC (.int 0)))
noncomputable def m__law_cell : Fn := fnM 2 b__law_cell
theorem ok__law_cell (T : Tx K mg) : FnM P w K mg base 1 T.f__law_cell T.fd__law_cell ["_law_script", "_law_k"] m__law_cell := have sc := sc__law_cell; defM2 T.F__law_cell sc rfl fun cdv A outer s H E hr hu tk pa => pess_cons (pes_if (pet_cmp om_lt (pee_name 1) (pee_cb cm_len T.n_len (pea_cons (pee_name 0) pea_nil))) (pess_one (pes_ret (pee_ix (xm_ix (hu1 hu)) (pee_name 0) (pee_name 1)))) pess_nil) (pess_one (pes_ret pee_int))
theorem sc__law_known : FnScope ["_law_counts_here", "_law_known_here", "_law_triple"] ["_law_counts_here"] (defScope s__law_known) := ⟨rfl, rfl, rfl, by decide +kernel, rfl, by decide +kernel, by decide +kernel⟩
noncomputable def b__law_known : Mo Fl := mSeq (mAsg 1 mDNewT) (mSeq (mFor (mIter (mName 0)) (tgN 2) (mSub fSet (mC (.bl true)) (mName 1) (mName 2))) (mRet (mName 1)))
noncomputable def m__law_known : Fn := fnM 3 b__law_known
theorem ok__law_known (T : Tx K mg) : FnM P w K mg base 1 T.f__law_known T.fd__law_known ["_law_counts_here"] m__law_known := have sc := sc__law_known; defM2 T.F__law_known sc rfl fun cdv A outer s H E hr hu tk pa => pess_cons (pes_set 1 sc.nd pee_dnewT) (pess_cons (pes_for pa (pei_seq (pee_name 0)) (peg_name 2 sc.nd) (pess_one (pes_sub (set_any (hu1 hu)) sr_any pee_bl (pee_name 1) (pee_name 2)))) (pess_one (pes_ret (pee_name 1))))
theorem sc__law_triples : FnScope ["_law_many", "_law_found", "_law_copy", "_law_sender", "_law_taker"] ["_law_many"] (defScope s__law_triples) := ⟨rfl, rfl, rfl, by decide +kernel, rfl, by decide +kernel, by decide +kernel⟩
noncomputable def b__law_triples : Mo Fl := mSeq (mAsg 1 (mLst mNil)) (mSeq (mFor (mRng1 (mCons (mName 0) mNil)) (tgN 2) (mFor (mRng1 (mCons (mName 0) mNil)) (tgN 3) (mFor (mRng1 (mCons (mName 0) mNil)) (tgN 4) (mIf (mAnd (mB (mBin fNeD (mName 2) (mName 3))) (mAnd (mB (mBin fNeD (mName 2) (mName 4))) (mB (mBin fNeD (mName 3) (mName 4))))) (mDrop (mMut .lst fAppend (mName 1) (mCons (mTup (mCons (mName 2) (mCons (mName 3) (mCons (mName 4) mNil)))) mNil))) mNext)))) (mRet (mName 1)))
noncomputable def m__law_triples : Fn := fnM 5 b__law_triples
theorem ok__law_triples (T : Tx K mg) : FnM P w K mg base 1 T.f__law_triples T.fd__law_triples ["_law_many"] m__law_triples := have sc := sc__law_triples; defM2 T.F__law_triples sc rfl fun cdv A outer s H E hr hu tk pa => pess_cons (pes_set 1 sc.nd (pee_lst pea_nil)) (pess_cons (pes_for pa (pei_rng1 T.n_range (pea_cons (pee_name 0) pea_nil)) (peg_name 2 sc.nd) (pess_one (pes_for pa (pei_rng1 T.n_range (pea_cons (pee_name 0) pea_nil)) (peg_name 3 sc.nd) (pess_one (pes_for pa (pei_rng1 T.n_range (pea_cons (pee_name 0) pea_nil)) (peg_name 4 sc.nd) (pess_one (pes_if ((pew_and (pet_cmp (om_neD (hu64 hu)) (pee_name 2) (pee_name 3)) (pew_and (pet_cmp (om_neD (hu64 hu)) (pee_name 2) (pee_name 4)) (pew_and1 (pet_cmp (om_neD (hu64 hu)) (pee_name 3) (pee_name 4))))).pt) (pess_one (pes_expr (pee_mut (k := .lst) PySem.F.plainAttrs_list PySem.F.slot_list_append PySem.F.type_list_append mt_append mu_append (pee_name 1) (pea_cons (pee_tup (pea_cons (pee_name 2) (pea_cons (pee_name 3) (pea_cons (pee_name 4) pea_nil)))) pea_nil)))) pess_nil))))))) (pess_one (pes_ret (pee_name 1))))
theorem sc__law_counts : FnScope ["_law_cell_here", "_law_many", "_law_triples_here", "_law_numbers_here", "_law_found", "_law_k", "_law_out", "_law_kept"] ["_law_cell_here", "_law_many"] (defScope s__law_counts) := ⟨rfl, rfl, rfl, by decide +kernel, rfl, by decide +kernel, by decide +kernel⟩
noncomputable def b__law_counts : Mo Fl := mSeq (mAsg 2 (mCall 1 m__law_triples (mCons (mName 1) mNil))) (mSeq (mAsg 3 (mCall 3 m__law_numbers (mCons (mName 0) (mCons (mC (.int 2)) (mCons (mBin fAdd (mLst (mCons (mC (.int 6)) (mCons (mC (.int 120)) (mCons (mC (.int 120)) mNil)))) (mBin fMul (mLst (mCons (mC (.int 256)) mNil)) (mC (.int 15)))) mNil))))) (mSeq (mAsg 4 (mLst mNil)) (mSeq (mFor (mRng1 (mCons (mCB fLen (mCons (mName 2) mNil)) mNil)) (tgN 5) (mSeq (mAsg 6 (mLst (mCons (mBin fMod (mCB fInt1 (mCons (mBin fIx (mName 3) (mC (.int 1))) mNil)) (mCB fLen (mCons (mName 2) mNil))) (mCons (mBin fMod (mCB fInt1 (mCons (mBin fIx (mName 3) (mC (.int 2))) mNil)) (mCB fLen (mCons (mName 2) mNil))) mNil)))) (mSeq (mAsg 7 (mBin fEqD (mBin fMod (mCB fInt1 (mCons (mBin fShr (mBin fIx (mName 3) (mBin fAdd (mC (.int 3)) (mBin fDiv (mName 5) (mC (.int 8))))) (mBin fMod (mCB fInt1 (mCons (mName 5) mNil)) (mC (.int 8)))) mNil)) (mC (.int 2))) (mC (.int 1)))) (mSeq (mIf (mOr (mB (mBin fEqD (mBin fIx (mName 3) (mC (.int 0))) (mC (.int 1)))) (mB (mBin fEqD (mBin fIx (mName 3) (mC (.int 0))) (mC (.int 2))))) (mAsg 7 (mBin fEqD (mBin fIx (mName 3) (mC (.int 0))) (mC (.int 1)))) mNext) (mSeq (mIf (mB (mBin fEqD (mBin fIx (mName 3) (mC (.int 0))) (mC (.int 3)))) (mAsg 7 (mBin fNeD (mName 5) (mBin fIx (mName 6) (mC (.int 0))))) mNext) (mSeq (mIf (mB (mBin fEqD (mBin fIx (mName 3) (mC (.int 0))) (mC (.int 4)))) (mAsg 7 (mBin (fIn true) (mName 5) (mName 6))) mNext) (mIf (mTru (mName 7)) (mDrop (mMut .lst fAppend (mName 4) (mCons (mBin fIx (mName 2) (mName 5)) mNil))) mNext))))))) (mRet (mName 4)))))
noncomputable def m__law_counts : Fn := fnM 8 b__law_counts
theorem ok__law_counts (T : Tx K mg) : FnM P w K mg base 2 T.f__law_counts T.fd__law_counts ["_law_cell_here", "_law_many"] m__law_counts := have sc := sc__law_counts; defM2 T.F__law_counts sc rfl fun cdv A outer s H E hr hu tk pa => pess_cons (pes_set 2 sc.nd (pee_callN rfl (ok__law_triples T) (hr.mono (by decide)) T.g__law_triples T.F__law_triples.kp T.b__law_triples tk (pea_cons (pee_name 1) pea_nil))) (pess_cons (pes_set 3 sc.nd (pee_callN rfl (ok__law_numbers T) (hr.mono (by decide)) T.g__law_numbers T.F__law_numbers.kp T.b__law_numbers tk (pea_cons (pee_name 0) (pea_cons pee_int (pea_cons (pee_op om_add (pee_lst (pea_cons pee_int (pea_cons pee_int (pea_cons pee_int pea_nil)))) (pee_op om_mul (pee_lst (pea_cons pee_int pea_nil)) pee_int)) pea_nil))))) (pess_cons (pes_set 4 sc.nd (pee_lst pea_nil)) (pess_cons (pes_for pa (pei_rng1 T.n_range (pea_cons (pee_cb cm_len T.n_len (pea_cons (pee_name 2) pea_nil)) pea_nil)) (peg_name 5 sc.nd) (pess_cons (pes_set 6 sc.nd (pee_lst (pea_cons (pee_op om_mod (pee_ct cm_int T.n_int (pea_cons (pee_ix (xm_ix (hu1 hu)) (pee_name 3) pee_int) pea_nil)) (pee_cb cm_len T.n_len (pea_cons (pee_name 2) pea_nil))) (pea_cons (pee_op om_mod (pee_ct cm_int T.n_int (pea_cons (pee_ix (xm_ix (hu1 hu)) (pee_name 3) pee_int) pea_nil)) (pee_cb cm_len T.n_len (pea_cons (pee_name 2) pea_nil))) pea_nil)))) (pess_cons (pes_set 7 sc.nd (pee_cmp (om_eqD (hu64 hu)) (pee_op om_mod (pee_ct cm_int T.n_int (pea_cons (pee_op om_shr (pee_ix (xm_ix (hu1 hu)) (pee_name 3) (pee_op om_add pee_int (pee_op om_div (pee_name 5) pee_int))) (pee_op om_mod (pee_ct cm_int T.n_int (pea_cons (pee_name 5) pea_nil)) pee_int)) pea_nil)) pee_int) pee_int)) (pess_cons (pes_if ((pew_or (pet_cmp (om_eqD (hu64 hu)) (pee_ix (xm_ix (hu1 hu)) (pee_name 3) pee_int) pee_int) (pew_or1 (pet_cmp (om_eqD (hu64 hu)) (pee_ix (xm_ix (hu1 hu)) (pee_name 3) pee_int) pee_int))).pt) (pess_one (pes_set 7 sc.nd (pee_cmp (om_eqD (hu64 hu)) (pee_ix (xm_ix (hu1 hu)) (pee_name 3) pee_int) pee_int))) pess_nil) (pess_cons (pes_if (pet_cmp (om_eqD (hu64 hu)) (pee_ix (xm_ix (hu1 hu)) (pee_name 3) pee_int) pee_int) (pess_one (pes_set 7 sc.nd (pee_cmp (om_neD (hu64 hu)) (pee_name 5) (pee_ix (xm_ix (hu1 hu)) (pee_name 6) pee_int)))) pess_nil) (pess_cons (pes_if (pet_cmp (om_eqD (hu64 hu)) (pee_ix (xm_ix (hu1 hu)) (pee_name 3) pee_int) pee_int) (pess_one (pes_set 7 sc.nd (pee_cmp (om_notIn (hu65 hu)) (pee_name 5) (pee_name 6)))) pess_nil) (pess_one (pes_if (pet_tru (pee_name 7)) (pess_one (pes_expr (pee_mut (k := .lst) PySem.F.plainAttrs_list PySem.F.slot_list_append PySem.F.type_list_append mt_append mu_append (pee_name 4) (pea_cons (pee_ix (xm_ix (hu1 hu)) (pee_name 2) (pee_name 5)) pea_nil)))) pess_nil)))))))) (pess_one (pes_ret (pee_name 4))))))
theorem sc__law_lines : FnScope ["_law_rows_here", "_law_found", "_law_sender", "_law_taker", "_law_key"] ["_law_rows_here"] (defScope s__law_lines) := ⟨rfl, rfl, rfl, by decide +kernel, rfl, by decide +kernel, by decide +kernel⟩
noncomputable def b__law_lines : Mo Fl := mSeq (mAsg 1 (mLst mNil)) (mSeq (mFor (mRng1 (mCons (mCB fLen (mCons (mName 0) mNil)) mNil)) (tgN 2) (mFor (mRng1 (mCons (mCB fLen (mCons (mName 0) mNil)) mNil)) (tgN 3) (mIf (mAnd (mB (mBin fNeD (mName 2) (mName 3))) (mB (mBin fNeD (mLc [4] (mIter (mBin fIx (mName 0) (mName 2))) (tgN 4) (mB (mBin (fIn false) (mName 4) (mBin fIx (mName 0) (mName 3)))) (mName 4)) (mLst mNil)))) (mDrop (mMut .lst fAppend (mName 1) (mCons (mTup (mCons (mName 2) (mCons (mName 3) mNil))) mNil))) mNext))) (mRet (mName 1)))
noncomputable def m__law_lines : Fn := fnM 5 b__law_lines
theorem ok__law_lines (T : Tx K mg) : FnM P w K mg base 1 T.f__law_lines T.fd__law_lines ["_law_rows_here"] m__law_lines := have sc := sc__law_lines; defM2 T.F__law_lines sc rfl fun cdv A outer s H E hr hu tk pa => pess_cons (pes_set 1 sc.nd (pee_lst pea_nil)) (pess_cons (pes_for pa (pei_rng1 T.n_range (pea_cons (pee_cb cm_len T.n_len (pea_cons (pee_name 0) pea_nil)) pea_nil)) (peg_name 2 sc.nd) (pess_one (pes_for pa (pei_rng1 T.n_range (pea_cons (pee_cb cm_len T.n_len (pea_cons (pee_name 0) pea_nil)) pea_nil)) (peg_name 3 sc.nd) (pess_one (pes_if ((pew_and (pet_cmp (om_neD (hu64 hu)) (pee_name 2) (pee_name 3)) (pew_and1 (pet_cmp (om_neD (hu64 hu)) (pee_lc sc.nd (own := [("_law_key", 4)]) (l := [4]) (pei_seq (pee_ix (xm_ix (hu1 hu)) (pee_name 0) (pee_name 2))) ⟨⟨rfl, by first | decide +kernel | (dsimp only [cxOf, envOfC, compEnvC, relabel]; decide +kernel) | exact of_decide_eq_true (by kernel_rfl), by first | decide +kernel | (dsimp only [cxOf, envOfC, compEnvC, relabel]; decide +kernel) | exact of_decide_eq_true (by kernel_rfl), by first | decide +kernel | (dsimp only [cxOf, envOfC, compEnvC, relabel]; decide +kernel) | exact of_decide_eq_true (by kernel_rfl), by first | decide +kernel | (dsimp only [cxOf, envOfC, compEnvC, relabel]; decide +kernel) | exact of_decide_eq_true (by kernel_rfl)⟩, (tgN_ne _), by decide, fun _ _ _ _ _ => by exact peg_name 4 sc.nd, fun _ _ _ _ _ => by exact pets_one (pet_cmp (om_in (hu65 hu)) (pee_name 4) (pee_ix (xm_ix (hu1 hu)) (pee_name 0) (pee_name 3))), fun _ _ _ _ _ => by exact pee_name 4⟩) (pee_lst pea_nil)))).pt) (pess_one (pes_expr (pee_mut (k := .lst) PySem.F.plainAttrs_list PySem.F.slot_list_append PySem.F.type_list_append mt_append mu_append (pee_name 1) (pea_cons (pee_tup (pea_cons (pee_name 2) (pea_cons (pee_name 3) pea_nil))) pea_nil)))) pess_nil))))) (pess_one (pes_ret (pee_name 1))))
theorem sc__law_carried : FnScope ["_law_lines_here", "_law_known_here", "_law_sender", "_law_taker", "_law_found", "_law_line", "_law_told"] ["_law_lines_here", "_law_known_here", "_law_sender", "_law_taker"] (defScope s__law_carried) := ⟨rfl, rfl, rfl, by decide +kernel, rfl, by decide +kernel, by decide +kernel⟩
noncomputable def b__law_carried : Mo Fl := mSeq (mAsg 4 (mLst mNil)) (mSeq (mFor (mIter (mName 0)) (tgN 5) (mSeq (mAsg 6 (mOrV (mBin fEqD (mBin fIx (mName 5) (mC (.int 0))) (mName 2)) (mBin (fIn false) (mTup (mCons (mName 2) (mCons (mBin fIx (mName 5) (mC (.int 0))) (mCons (mBin fIx (mName 5) (mC (.int 1))) mNil)))) (mName 1)))) (mIf (mAnd (mTru (mName 6)) (mOr (mB (mBin fEqD (mBin fIx (mName 5) (mC (.int 1))) (mName 3))) (mB (mBin (fIn false) (mTup (mCons (mName 3) (mCons (mBin fIx (mName 5) (mC (.int 0))) (mCons (mBin fIx (mName 5) (mC (.int 1))) mNil)))) (mName 1))))) (mDrop (mMut .lst fAppend (mName 4) (mCons (mName 5) mNil))) mNext))) (mRet (mName 4)))
noncomputable def m__law_carried : Fn := fnM 7 b__law_carried
theorem ok__law_carried (T : Tx K mg) : FnM P w K mg base 1 T.f__law_carried T.fd__law_carried ["_law_lines_here", "_law_known_here", "_law_sender", "_law_taker"] m__law_carried := have sc := sc__law_carried; defM2 T.F__law_carried sc rfl fun cdv A outer s H E hr hu tk pa => pess_cons (pes_set 4 sc.nd (pee_lst pea_nil)) (pess_cons (pes_for pa (pei_seq (pee_name 0)) (peg_name 5 sc.nd) (pess_cons (pes_set 6 sc.nd (pee_or (pee_cmp (om_eqD (hu64 hu)) (pee_ix (xm_ix (hu1 hu)) (pee_name 5) pee_int) (pee_name 2)) (pee_one (pee_cmp (om_in (hu65 hu)) (pee_tup (pea_cons (pee_name 2) (pea_cons (pee_ix (xm_ix (hu1 hu)) (pee_name 5) pee_int) (pea_cons (pee_ix (xm_ix (hu1 hu)) (pee_name 5) pee_int) pea_nil)))) (pee_name 1))))) (pess_one (pes_if ((pew_and (pet_tru (pee_name 6)) (pew_and1 ((pew_or (pet_cmp (om_eqD (hu64 hu)) (pee_ix (xm_ix (hu1 hu)) (pee_name 5) pee_int) (pee_name 3)) (pew_or1 (pet_cmp (om_in (hu65 hu)) (pee_tup (pea_cons (pee_name 3) (pea_cons (pee_ix (xm_ix (hu1 hu)) (pee_name 5) pee_int) (pea_cons (pee_ix (xm_ix (hu1 hu)) (pee_name 5) pee_int) pea_nil)))) (pee_name 1)))).pt))).pt) (pess_one (pes_expr (pee_mut (k := .lst) PySem.F.plainAttrs_list PySem.F.slot_list_append PySem.F.type_list_append mt_append mu_append (pee_name 4) (pea_cons (pee_name 5) pea_nil)))) pess_nil)))) (pess_one (pes_ret (pee_name 4))))
theorem sc__law_letter : FnScope ["_law_rows_here", "_law_known_here", "_law_cell_here", "_law_lines_here", "_law_numbers_here", "_law_both", "_law_counts_here", "_law_line", "_law_sender", "_law_taker", "_law_number", "_law_key"] ["_law_rows_here", "_law_known_here", "_law_cell_here"] (defScope s__law_letter) := ⟨rfl, rfl, rfl, by decide +kernel, rfl, by decide +kernel, by decide +kernel⟩
noncomputable def b__law_letter : Mo Fl := mSeq (mAsg 3 (mCall 1 m__law_lines (mCons (mName 0) mNil))) (mSeq (mAsg 4 (mCall 3 m__law_numbers (mCons (mName 2) (mCons (mC (.int 6)) (mCons (mBin fAdd (mLst (mCons (mC (.int 30)) (mCons (mC (.int 8)) (mCons (mC (.int 1000)) (mCons (mC (.int 1000)) mNil))))) (mBin fMul (mLst (mCons (mC (.int 100)) mNil)) (mC (.int 21)))) mNil))))) (mSeq (mAsgT (tgT 2 (tgsCons (tgN 8) (tgsCons (tgN 9) tgsNil))) (mBin fIx (mName 3) (mBin fMod (mCB fInt1 (mCons (mBin fIx (mName 4) (mC (.int 0))) mNil)) (mCB fLen (mCons (mName 3) mNil))))) (mSeq (mAsg 5 (mLc [11] (mIter (mBin fIx (mName 0) (mName 8))) (tgN 11) (mB (mBin (fIn false) (mName 11) (mBin fIx (mName 0) (mName 9)))) (mName 11))) (mSeq (mAsg 6 (mLst mNil)) (mSeq (mFor (mIter (mCall 4 m__law_carried (mCons (mName 3) (mCons (mName 1) (mCons (mName 8) (mCons (mName 9) mNil)))))) (tgN 7) (mSeq (mAsg 10 (mBin fIx (mName 4) (mBin fAdd (mC (.int 4)) (mCB fLen (mCons (mName 6) mNil))))) (mSeq (mIf (mAnd (mB (mBin fEqD (mName 7) (mTup (mCons (mName 8) (mCons (mName 9) mNil))))) (mB (mBin fEqD (mName 10) (mC (.int 0))))) (mAsg 10 (mC (.int 99))) mNext) (mDrop (mMut .lst fAppend (mName 6) (mCons (mTup (mCons (mBin fIx (mName 7) (mC (.int 0))) (mCons (mBin fIx (mName 7) (mC (.int 1))) (mCons (mName 10) mNil)))) mNil)))))) (mRet (mTup (mCons (mName 8) (mCons (mName 9) (mCons (mBin fIx (mName 5) (mBin fMod (mCB fInt1 (mCons (mBin fIx (mName 4) (mC (.int 1))) mNil)) (mCB fLen (mCons (mName 5) mNil)))) (mCons (mBin fAdd (mBin fMul (mC (.int 1000)) (mBin fIx (mName 4) (mC (.int 2)))) (mBin fIx (mName 4) (mC (.int 3)))) (mCons (mName 6) mNil))))))))))))
noncomputable def m__law_letter : Fn := fnM 12 b__law_letter
theorem ok__law_letter (T : Tx K mg) : FnM P w K mg base 2 T.f__law_letter T.fd__law_letter ["_law_rows_here", "_law_known_here", "_law_cell_here"] m__law_letter := have sc := sc__law_letter; defM2 T.F__law_letter sc rfl fun cdv A outer s H E hr hu tk pa => pess_cons (pes_set 3 sc.nd (pee_callN rfl (ok__law_lines T) (hr.mono (by decide)) T.g__law_lines T.F__law_lines.kp T.b__law_lines tk (pea_cons (pee_name 0) pea_nil))) (pess_cons (pes_set 4 sc.nd (pee_callN rfl (ok__law_numbers T) (hr.mono (by decide)) T.g__law_numbers T.F__law_numbers.kp T.b__law_numbers tk (pea_cons (pee_name 2) (pea_cons pee_int (pea_cons (pee_op om_add (pee_lst (pea_cons pee_int (pea_cons pee_int (pea_cons pee_int (pea_cons pee_int pea_nil))))) (pee_op om_mul (pee_lst (pea_cons pee_int pea_nil)) pee_int)) pea_nil))))) (pess_cons (pes_asg (pee_ix (xm_ix (hu1 hu)) (pee_name 3) (pee_op om_mod (pee_ct cm_int T.n_int (pea_cons (pee_ix (xm_ix (hu1 hu)) (pee_name 4) pee_int) pea_nil)) (pee_cb cm_len T.n_len (pea_cons (pee_name 3) pea_nil)))) (peg_tup (pegs_cons (peg_name 8 sc.nd) (pegs_cons (peg_name 9 sc.nd) pegs_nil)))) (pess_cons (pes_setLc 5 sc.nd (own := [("_law_key", 11)]) (l := [11]) (pei_seq (pee_ix (xm_ix (hu1 hu)) (pee_name 0) (pee_name 8))) ⟨⟨rfl, by first | decide +kernel | (dsimp only [cxOf, envOfC, compEnvC, relabel]; decide +kernel) | exact of_decide_eq_true (by kernel_rfl), by first | decide +kernel | (dsimp only [cxOf, envOfC, compEnvC, relabel]; decide +kernel) | exact of_decide_eq_true (by kernel_rfl), by first | decide +kernel | (dsimp only [cxOf, envOfC, compEnvC, relabel]; decide +kernel) | exact of_decide_eq_true (by kernel_rfl), by first | decide +kernel | (dsimp only [cxOf, envOfC, compEnvC, relabel]; decide +kernel) | exact of_decide_eq_true (by kernel_rfl)⟩, (tgN_ne _), by decide, fun _ _ _ _ _ => by exact peg_name 11 sc.nd, fun _ _ _ _ _ => by exact pets_one (pet_cmp (om_in (hu65 hu)) (pee_name 11) (pee_ix (xm_ix (hu1 hu)) (pee_name 0) (pee_name 9))), fun _ _ _ _ _ => by exact pee_name 11⟩) (pess_cons (pes_set 6 sc.nd (pee_lst pea_nil)) (pess_cons (pes_for pa (pei_seq (pee_callN rfl (ok__law_carried T) (hr.mono (by decide)) T.g__law_carried T.F__law_carried.kp T.b__law_carried tk (pea_cons (pee_name 3) (pea_cons (pee_name 1) (pea_cons (pee_name 8) (pea_cons (pee_name 9) pea_nil)))))) (peg_name 7 sc.nd) (pess_cons (pes_set 10 sc.nd (pee_ix (xm_ix (hu1 hu)) (pee_name 4) (pee_op om_add pee_int (pee_cb cm_len T.n_len (pea_cons (pee_name 6) pea_nil))))) (pess_cons (pes_if ((pew_and (pet_cmp (om_eqD (hu64 hu)) (pee_name 7) (pee_tup (pea_cons (pee_name 8) (pea_cons (pee_name 9) pea_nil)))) (pew_and1 (pet_cmp (om_eqD (hu64 hu)) (pee_name 10) pee_int))).pt) (pess_one (pes_set 10 sc.nd pee_int)) pess_nil) (pess_one (pes_expr (pee_mut (k := .lst) PySem.F.plainAttrs_list PySem.F.slot_list_append PySem.F.type_list_append mt_append mu_append (pee_name 6) (pea_cons (pee_tup (pea_cons (pee_ix (xm_ix (hu1 hu)) (pee_name 7) pee_int) (pea_cons (pee_ix (xm_ix (hu1 hu)) (pee_name 7) pee_int) (pea_cons (pee_name 10) pea_nil)))) pea_nil))))))) (pess_one (pes_ret (pee_tup (pea_cons (pee_name 8) (pea_cons (pee_name 9) (pea_cons (pee_ix (xm_ix (hu1 hu)) (pee_name 5) (pee_op om_mod (pee_ct cm_int T.n_int (pea_cons (pee_ix (xm_ix (hu1 hu)) (pee_name 4) pee_int) pea_nil)) (pee_cb cm_len T.n_len (pea_cons (pee_name 5) pea_nil)))) (pea_cons (pee_op om_add (pee_op om_mul pee_int (pee_ix (xm_ix (hu1 hu)) (pee_name 4) pee_int)) (pee_ix (xm_ix (hu1 hu)) (pee_name 4) pee_int)) (pea_cons (pee_name 6) pea_nil)))))))))))))
theorem sc_Letter___init__ : FnScope ["self", "sender", "taker", "key", "value", "counts"] ["self", "sender", "taker", "key", "value", "counts"] (defScope s_Letter___init__) := ⟨rfl, rfl, rfl, by decide +kernel, rfl, by decide +kernel, by decide +kernel⟩
theorem slok_Letter (T : Tx K mg) : FnOk P w K mg base (L2.CX P w) 1 T.f_Letter___init__ T.fd_Letter___init__ ["self", "sender", "taker", "key", "value", "counts"] (spSl5 K T.C_Letter) := sl5_ok T.F_Letter___init__ sc_Letter___init__ rfl T.sl5_Letter fun cdv A outer s H E => pss_cons (SlX.ps_sl (pv 0) (pv 1)) (pss_cons (SlX.ps_sl (pv 0) (pv 2)) (pss_cons (SlX.ps_sl (pv 0) (pv 3)) (pss_cons (SlX.ps_sl (pv 0) (pv 4)) (pss_one (SlX.ps_sl (pv 0) (pe_callTy call_tuple_of rfl T.n_tuple (by decide +kernel) (pa_cons (pv 5) pa_nil) (by decide) (by decide) rfl rfl))))))
theorem sc_Letter_number : FnScope ["self", "own", "start", "end", "number"] ["self"] (defScope s_Letter_number) := ⟨rfl, rfl, rfl, by decide +kernel, rfl, by decide +kernel, by decide +kernel⟩
noncomputable def b_Letter_number : Mo Fl := mSeq (mAsg 1 (mLc [2, 3, 4] (mIter (mUn (fSlot sl_counts) (mName 0))) (tgT 3 (tgsCons (tgN 2) (tgsCons (tgN 3) (tgsCons (tgN 4) tgsNil)))) (mB (mBin fEqD (mTup (mCons (mName 2) (mCons (mName 3) mNil))) (mTup (mCons (mUn (fSlot sl_sender) (mName 0)) (mCons (mUn (fSlot sl_taker) (mName 0)) mNil))))) (mName 4))) (mRet (mBin fIx (mName 1) (mC (.int 0))))
noncomputable def m_Letter_number : Fn := fnM 5 b_Letter_number
theorem ok_Letter_number (T : Tx K mg) : FnM P w K mg base 1 T.f_Letter_number T.fd_Letter_number ["self"] m_Letter_number := have sc := sc_Letter_number; defM2 T.F_Letter_number sc rfl fun cdv A outer s H E hr hu tk pa => pess_cons (pes_setLc 1 sc.nd (own := [("start", 2), ("end", 3), ("number", 4)]) (l := [2, 3, 4]) (pei_seq (pee_slot T.sl_counts (pee_name 0))) ⟨⟨rfl, by first | decide +kernel | (dsimp only [cxOf, envOfC, compEnvC, relabel]; decide +kernel) | exact of_decide_eq_true (by kernel_rfl), by first | decide +kernel | (dsimp only [cxOf, envOfC, compEnvC, relabel]; decide +kernel) | exact of_decide_eq_true (by kernel_rfl), by first | decide +kernel | (dsimp only [cxOf, envOfC, compEnvC, relabel]; decide +kernel) | exact of_decide_eq_true (by kernel_rfl), by first | decide +kernel | (dsimp only [cxOf, envOfC, compEnvC, relabel]; decide +kernel) | exact of_decide_eq_true (by kernel_rfl)⟩, (tgT_ne (tgsCons_ne (tgN_ne _) (tgsCons_ne (tgN_ne _) (tgsCons_ne (tgN_ne _) tgsNil_ne)))), by decide, fun _ _ _ _ _ => by exact peg_tup (pegs_cons (peg_name 2 sc.nd) (pegs_cons (peg_name 3 sc.nd) (pegs_cons (peg_name 4 sc.nd) pegs_nil))), fun _ _ _ _ _ => by exact pets_one (pet_cmp (om_eqD (hu64 hu)) (pee_tup (pea_cons (pee_name 2) (pea_cons (pee_name 3) pea_nil))) (pee_tup (pea_cons (pee_slot T.sl_sender (pee_name 0)) (pea_cons (pee_slot T.sl_taker (pee_name 0)) pea_nil)))), fun _ _ _ _ _ => by exact pee_name 4⟩) (pess_one (pes_ret (pee_ix (xm_ix (hu1 hu)) (pee_name 1) pee_int)))
theorem sc__law_is_int : FnScope ["_law_given"] ["_law_given"] (defScope s__law_is_int) := ⟨rfl, rfl, rfl, by decide +kernel, rfl, by decide +kernel, by decide +kernel⟩
noncomputable def b__law_is_int : Mo Fl := mRet (mAndV (mIs ti_int (mName 0)) (mNotV (mIs ti_bool (mName 0))))
noncomputable def m__law_is_int : Fn := fnM 1 b__law_is_int
theorem okw__law_is_int (T : Tx K mg) : FnW P w K mg base 1 T.f__law_is_int T.fd__law_is_int ["_law_given"] m__law_is_int := have sc := sc__law_is_int; defW2 T.F__law_is_int sc rfl fun cdv A outer s H E hr hu tk pa => pess_one (pes_ret (pee_and (pee_is T.ist_int (ClsV.ty _) (fun _ => by exact pe_bltn rfl T.n_int (by decide +kernel) rfl) T.n_isinstance (pee_name 0)) (pee_one (pee_not (pee_is T.ist_bool (ClsV.ty _) (fun _ => by exact pe_bltn rfl T.n_bool (by decide +kernel) rfl) T.n_isinstance (pee_name 0))))))
theorem ok__law_is_int (T : Tx K mg) : FnM P w K mg base 1 T.f__law_is_int T.fd__law_is_int ["_law_given"] m__law_is_int := (okw__law_is_int T).toM
theorem sc__law_same_rows : FnScope ["_law_told", "_law_due", "_law_k", "_law_part"] ["_law_told", "_law_due"] (defScope s__law_same_rows) := ⟨rfl, rfl, rfl, by decide +kernel, rfl, by decide +kernel, by decide +kernel⟩
noncomputable def b__law_same_rows : Mo Fl := mSeq (mIf (mOr (mNot (mB (mIs ti_list (mName 0)))) (mB (mBin fNeD (mCB fLen (mCons (mName 0) mNil)) (mCB fLen (mCons (mName 1) mNil))))) (mRet (mC (.bl false))) mNext) (mSeq (mFor (mRng1 (mCons (mCB fLen (mCons (mName 1) mNil)) mNil)) (tgN 2) (mSeq (mIf (mOr (mNot (mB (mIs ti_tuple (mBin fIx (mName 0) (mName 2))))) (mB (mBin fNeD (mBin fIx (mName 0) (mName 2)) (mBin fIx (mName 1) (mName 2))))) (mRet (mC (.bl false))) mNext) (mIf (mNot (mB (mCB fAll (mCons (mLc [3] (mIter (mBin fIx (mName 0) (mName 2))) (tgN 3) mYes (mCall 1 m__law_is_int (mCons (mName 3) mNil))) mNil)))) (mRet (mC (.bl false))) mNext))) (mRet (mC (.bl true))))
noncomputable def m__law_same_rows : Fn := fnM 4 b__law_same_rows
theorem ok__law_same_rows (T : Tx K mg) : FnM P w K mg base 2 T.f__law_same_rows T.fd__law_same_rows ["_law_told", "_law_due"] m__law_same_rows := have sc := sc__law_same_rows; defM2 T.F__law_same_rows sc rfl fun cdv A outer s H E hr hu tk pa => pess_cons (pes_if ((pew_or (pet_not (pet_val (pee_is T.ist_list (ClsV.ty _) (fun _ => by exact pe_bltn rfl T.n_list (by decide +kernel) rfl) T.n_isinstance (pee_name 0)))) (pew_or1 (pet_cmp (om_neD (hu64 hu)) (pee_cb cm_len T.n_len (pea_cons (pee_name 0) pea_nil)) (pee_cb cm_len T.n_len (pea_cons (pee_name 1) pea_nil))))).pt) (pess_one (pes_ret pee_bl)) pess_nil) (pess_cons (pes_for pa (pei_rng1 T.n_range (pea_cons (pee_cb cm_len T.n_len (pea_cons (pee_name 1) pea_nil)) pea_nil)) (peg_name 2 sc.nd) (pess_cons (pes_if ((pew_or (pet_not (pet_val (pee_is T.ist_tuple (ClsV.ty _) (fun _ => by exact pe_bltn rfl T.n_tuple (by decide +kernel) rfl) T.n_isinstance (pee_ix (xm_ix (hu1 hu)) (pee_name 0) (pee_name 2))))) (pew_or1 (pet_cmp (om_neD (hu64 hu)) (pee_ix (xm_ix (hu1 hu)) (pee_name 0) (pee_name 2)) (pee_ix (xm_ix (hu1 hu)) (pee_name 1) (pee_name 2))))).pt) (pess_one (pes_ret pee_bl)) pess_nil) (pess_one (pes_if (pet_not (pet_val (pee_cb cm_all T.n_all (pea_cons (pee_lc sc.nd (own := [("_law_part", 3)]) (l := [3]) (pei_seq (pee_ix (xm_ix (hu1 hu)) (pee_name 0) (pee_name 2))) ⟨⟨rfl, by first | decide +kernel | (dsimp only [cxOf, envOfC, compEnvC, relabel]; decide +kernel) | exact of_decide_eq_true (by kernel_rfl), by first | decide +kernel | (dsimp only [cxOf, envOfC, compEnvC, relabel]; decide +kernel) | exact of_decide_eq_true (by kernel_rfl), by first | decide +kernel | (dsimp only [cxOf, envOfC, compEnvC, relabel]; decide +kernel) | exact of_decide_eq_true (by kernel_rfl), by first | decide +kernel | (dsimp only [cxOf, envOfC, compEnvC, relabel]; decide +kernel) | exact of_decide_eq_true (by kernel_rfl)⟩, (tgN_ne _), by decide, fun _ _ _ _ _ => by exact peg_name 3 sc.nd, fun _ _ _ _ _ => by exact pets_nil, fun _ _ _ _ _ => by exact pee_callN rfl (ok__law_is_int T) (hr.mono (by decide)) T.g__law_is_int T.F__law_is_int.kp T.b__law_is_int tk0 (pea_cons (pee_name 3) pea_nil)⟩) pea_nil)))) (pess_one (pes_ret pee_bl)) pess_nil)))) (pess_one (pes_ret pee_bl)))
theorem sc__law_same_letter : FnScope ["_law_told", "_law_letter_here", "_law_part", "_law_own", "_law_sender", "_law_taker", "_law_key", "_law_value", "_law_counts_here", "_law_row_here"] ["_law_told", "_law_letter_here"] (defScope s__law_same_letter) := ⟨rfl, rfl, rfl, by decide +kernel, rfl, by decide +kernel, by decide +kernel⟩
noncomputable def b__law_same_letter : Mo Fl := mSeq (mAsgT (tgT 5 (tgsCons (tgN 4) (tgsCons (tgN 5) (tgsCons (tgN 6) (tgsCons (tgN 7) (tgsCons (tgN 8) tgsNil)))))) (mName 1)) (mSeq (mFor (mIter (mLst (mCons (mUn (fSlot sl_sender) (mName 0)) (mCons (mUn (fSlot sl_taker) (mName 0)) (mCons (mUn (fSlot sl_key) (mName 0)) (mCons (mUn (fSlot sl_value) (mName 0)) (mCons (mPropS "Letter" m_Letter_number (mName 0)) mNil))))))) (tgN 2) (mIf (mNot (mB (mCall 1 m__law_is_int (mCons (mName 2) mNil)))) (mRet (mC (.bl false))) mNext)) (mSeq (mAsg 3 (mLc [9] (mIter (mName 8)) (tgN 9) (mAnd (mB (mBin fEqD (mBin fIx (mName 9) (mC (.int 0))) (mName 4))) (mB (mBin fEqD (mBin fIx (mName 9) (mC (.int 1))) (mName 5)))) (mBin fIx (mName 9) (mC (.int 2))))) (mSeq (mIf (mB (mBin fNeD (mLst (mCons (mUn (fSlot sl_sender) (mName 0)) (mCons (mUn (fSlot sl_taker) (mName 0)) (mCons (mUn (fSlot sl_key) (mName 0)) (mCons (mUn (fSlot sl_value) (mName 0)) (mCons (mPropS "Letter" m_Letter_number (mName 0)) mNil)))))) (mLst (mCons (mName 4) (mCons (mName 5) (mCons (mName 6) (mCons (mName 7) (mCons (mBin fIx (mName 3) (mC (.int 0))) mNil)))))))) (mRet (mC (.bl false))) mNext) (mRet (mAndV (mIs ti_tuple (mUn (fSlot sl_counts) (mName 0))) (mCall 2 m__law_same_rows (mCons (mCB fList (mCons (mUn (fSlot sl_counts) (mName 0)) mNil)) (mCons (mName 8) mNil))))))))
noncomputable def m__law_same_letter : Fn := fnM 10 b__law_same_letter
theorem ok__law_same_letter (T : Tx K mg) : FnM P w K mg base 3 T.f__law_same_letter T.fd__law_same_letter ["_law_told", "_law_letter_here"] m__law_same_letter := have sc := sc__law_same_letter; defM2 T.F__law_same_letter sc rfl fun cdv A outer s H E hr hu tk pa => pess_cons (pes_asg (pee_name 1) (peg_tup (pegs_cons (peg_name 4 sc.nd) (pegs_cons (peg_name 5 sc.nd) (pegs_cons (peg_name 6 sc.nd) (pegs_cons (peg_name 7 sc.nd) (pegs_cons (peg_name 8 sc.nd) pegs_nil))))))) (pess_cons (pes_for pa (pei_seq (pee_lst (pea_cons (pee_slot T.sl_sender (pee_name 0)) (pea_cons (pee_slot T.sl_taker (pee_name 0)) (pea_cons (pee_slot T.sl_key (pee_name 0)) (pea_cons (pee_slot T.sl_value (pee_name 0)) (pea_cons (pee_propS rfl T.c_Letter T.sc_Letter T.pp_Letter_number (ok_Letter_number T) (hr.mono (by decide)) T.b_Letter_number (pee_name 0)) pea_nil))))))) (peg_name 2 sc.nd) (pess_one (pes_if (pet_not (pet_val (pee_callN rfl (ok__law_is_int T) (hr.mono (by decide)) T.g__law_is_int T.F__law_is_int.kp T.b__law_is_int tk (pea_cons (pee_name 2) pea_nil)))) (pess_one (pes_ret pee_bl)) pess_nil))) (pess_cons (pes_setLc 3 sc.nd (own := [("_law_row_here", 9)]) (l := [9]) (pei_seq (pee_name 8)) ⟨⟨rfl, by first | decide +kernel | (dsimp only [cxOf, envOfC, compEnvC, relabel]; decide +kernel) | exact of_decide_eq_true (by kernel_rfl), by first | decide +kernel | (dsimp only [cxOf, envOfC, compEnvC, relabel]; decide +kernel) | exact of_decide_eq_true (by kernel_rfl), by first | decide +kernel | (dsimp only [cxOf, envOfC, compEnvC, relabel]; decide +kernel) | exact of_decide_eq_true (by kernel_rfl), by first | decide +kernel | (dsimp only [cxOf, envOfC, compEnvC, relabel]; decide +kernel) | exact of_decide_eq_true (by kernel_rfl)⟩, (tgN_ne _), by decide, fun _ _ _ _ _ => by exact peg_name 9 sc.nd, fun _ _ _ _ _ => by exact pets_one ((pew_and (pet_cmp (om_eqD (hu64 hu)) (pee_ix (xm_ix (hu1 hu)) (pee_name 9) pee_int) (pee_name 4)) (pew_and1 (pet_cmp (om_eqD (hu64 hu)) (pee_ix (xm_ix (hu1 hu)) (pee_name 9) pee_int) (pee_name 5)))).pt), fun _ _ _ _ _ => by exact pee_ix (xm_ix (hu1 hu)) (pee_name 9) pee_int⟩) (pess_cons (pes_if (pet_cmp (om_neD (hu64 hu)) (pee_lst (pea_cons (pee_slot T.sl_sender (pee_name 0)) (pea_cons (pee_slot T.sl_taker (pee_name 0)) (pea_cons (pee_slot T.sl_key (pee_name 0)) (pea_cons (pee_slot T.sl_value (pee_name 0)) (pea_cons (pee_propS rfl T.c_Letter T.sc_Letter T.pp_Letter_number (ok_Letter_number T) (hr.mono (by decide)) T.b_Letter_number (pee_name 0)) pea_nil)))))) (pee_lst (pea_cons (pee_name 4) (pea_cons (pee_name 5) (pea_cons (pee_name 6) (pea_cons (pee_name 7) (pea_cons (pee_ix (xm_ix (hu1 hu)) (pee_name 3) pee_int) pea_nil))))))) (pess_one (pes_ret pee_bl)) pess_nil) (pess_one (pes_ret (pee_and (pee_is T.ist_tuple (ClsV.ty _) (fun _ => by exact pe_bltn rfl T.n_tuple (by decide +kernel) rfl) T.n_isinstance (pee_slot T.sl_counts (pee_name 0))) (pee_one (pee_callN rfl (ok__law_same_rows T) (hr.mono (by decide)) T.g__law_same_rows T.F__law_same_rows.kp T.b__law_same_rows tk (pea_cons (pee_ct cm_list T.n_list (pea_cons (pee_slot T.sl_counts (pee_name 0)) pea_nil)) (pea_cons (pee_name 8) pea_nil))))))))))
theorem sc__law_same_bytes : FnScope ["_law_data", "_law_text", "_law_byte", "_law_sign"] ["_law_data", "_law_text"] (defScope s__law_same_bytes) := ⟨rfl, rfl, rfl, by decide +kernel, rfl, by decide +kernel, by decide +kernel⟩
noncomputable def b__law_same_bytes : Mo Fl := mSeq (mIf (mOr (mB (mIs ti_str (mName 0))) (mOr (mB (mIs ti_list (mName 0))) (mOr (mB (mIs ti_tuple (mName 0))) (mB (mBin fNeD (mCB fLen (mCons (mName 0) mNil)) (mCB fLen (mCons (mName 1) mNil))))))) (mRet (mC (.bl false))) mNext) (mRet (mBin fEqD (mLc [2] (mIterB (mName 0)) (tgN 2) mYes (mName 2)) (mLc [3] (mIterS (mName 1)) (tgN 3) mYes (mCB fOrd (mCons (mName 3) mNil)))))
noncomputable def m__law_same_bytes : Fn := fnM 4 b__law_same_bytes
theorem ok__law_same_bytes (T : Tx K mg) : FnM P w K mg base 1 T.f__law_same_bytes T.fd__law_same_bytes ["_law_data", "_law_text"] m__law_same_bytes := have sc := sc__law_same_bytes; defM2 T.F__law_same_bytes sc rfl fun cdv A outer s H E hr hu tk pa => pess_cons (pes_if ((pew_or (pet_val (pee_is T.ist_str (ClsV.ty _) (fun _ => by exact pe_bltn rfl T.n_str (by decide +kernel) rfl) T.n_isinstance (pee_name 0))) (pew_or (pet_val (pee_is T.ist_list (ClsV.ty _) (fun _ => by exact pe_bltn rfl T.n_list (by decide +kernel) rfl) T.n_isinstance (pee_name 0))) (pew_or (pet_val (pee_is T.ist_tuple (ClsV.ty _) (fun _ => by exact pe_bltn rfl T.n_tuple (by decide +kernel) rfl) T.n_isinstance (pee_name 0))) (pew_or1 (pet_cmp (om_neD (hu64 hu)) (pee_cb cm_len T.n_len (pea_cons (pee_name 0) pea_nil)) (pee_cb cm_len T.n_len (pea_cons (pee_name 1) pea_nil))))))).pt) (pess_one (pes_ret pee_bl)) pess_nil) (pess_one (pes_ret (pee_cmp (om_eqD (hu64 hu)) (pee_lc sc.nd (own := [("_law_byte", 2)]) (l := [2]) (pei_byt (pee_name 0)) ⟨⟨rfl, by first | decide +kernel | (dsimp only [cxOf, envOfC, compEnvC, relabel]; decide +kernel) | exact of_decide_eq_true (by kernel_rfl), by first | decide +kernel | (dsimp only [cxOf, envOfC, compEnvC, relabel]; decide +kernel) | exact of_decide_eq_true (by kernel_rfl), by first | decide +kernel | (dsimp only [cxOf, envOfC, compEnvC, relabel]; decide +kernel) | exact of_decide_eq_true (by kernel_rfl), by first | decide +kernel | (dsimp only [cxOf, envOfC, compEnvC, relabel]; decide +kernel) | exact of_decide_eq_true (by kernel_rfl)⟩, (tgN_ne _), by decide, fun _ _ _ _ _ => by exact peg_name 2 sc.nd, fun _ _ _ _ _ => by exact pets_nil, fun _ _ _ _ _ => by exact pee_name 2⟩) (pee_lc sc.nd (own := [("_law_sign", 3)]) (l := [3]) (pei_str (pee_name 1)) ⟨⟨rfl, by first | decide +kernel | (dsimp only [cxOf, envOfC, compEnvC, relabel]; decide +kernel) | exact of_decide_eq_true (by kernel_rfl), by first | decide +kernel | (dsimp only [cxOf, envOfC, compEnvC, relabel]; decide +kernel) | exact of_decide_eq_true (by kernel_rfl), by first | decide +kernel | (dsimp only [cxOf, envOfC, compEnvC, relabel]; decide +kernel) | exact of_decide_eq_true (by kernel_rfl), by first | decide +kernel | (dsimp only [cxOf, envOfC, compEnvC, relabel]; decide +kernel) | exact of_decide_eq_true (by kernel_rfl)⟩, (tgN_ne _), by decide, fun _ _ _ _ _ => by exact peg_name 3 sc.nd, fun _ _ _ _ _ => by exact pets_nil, fun _ _ _ _ _ => by exact pee_cb cm_ord T.n_ord (pea_cons (pee_name 3) pea_nil)⟩))))
theorem sc__law_digits : FnScope ["_law_letter_here", "_law_text", "_law_row_here", "_law_sender", "_law_taker", "_law_key", "_law_value", "_law_counts_here"] ["_law_letter_here"] (defScope s__law_digits) := ⟨rfl, rfl, rfl, by decide +kernel, rfl, by decide +kernel, by decide +kernel⟩
noncomputable def b__law_digits : Mo Fl := mSeq (mAsgT (tgT 5 (tgsCons (tgN 3) (tgsCons (tgN 4) (tgsCons (tgN 5) (tgsCons (tgN 6) (tgsCons (tgN 7) tgsNil)))))) (mName 0)) (mSeq (mAsg 1 (mBin fAdd (mBin fAdd (mBin fAdd (mCB fStr1 (mCons (mName 3) mNil)) (mCB fStr1 (mCons (mName 4) mNil))) (mCB fStr1 (mCons (mName 5) mNil))) (mTx1 fZfill (mCB fStr1 (mCons (mName 6) mNil)) (mC (.int 6))))) (mSeq (mFor (mIter (mName 7)) (tgN 2) (mAsg 1 (mBin fAdd (mName 1) (mTx1 fZfill (mCB fStr1 (mCons (mBin fIx (mName 2) (mC (.int 2))) mNil)) (mC (.int 2)))))) (mRet (mName 1))))
noncomputable def m__law_digits : Fn := fnM 8 b__law_digits
theorem ok__law_digits (T : Tx K mg) : FnM P w K mg base 1 T.f__law_digits T.fd__law_digits ["_law_letter_here"] m__law_digits := have sc := sc__law_digits; defM2 T.F__law_digits sc rfl fun cdv A outer s H E hr hu tk pa => pess_cons (pes_asg (pee_name 0) (peg_tup (pegs_cons (peg_name 3 sc.nd) (pegs_cons (peg_name 4 sc.nd) (pegs_cons (peg_name 5 sc.nd) (pegs_cons (peg_name 6 sc.nd) (pegs_cons (peg_name 7 sc.nd) pegs_nil))))))) (pess_cons (pes_set 1 sc.nd (pee_op om_add (pee_op om_add (pee_op om_add (pee_ct cm_str T.n_str (pea_cons (pee_name 3) pea_nil)) (pee_ct cm_str T.n_str (pea_cons (pee_name 4) pea_nil))) (pee_ct cm_str T.n_str (pea_cons (pee_name 5) pea_nil))) (pee_zfill (pee_ct cm_str T.n_str (pea_cons (pee_name 6) pea_nil)) pee_int))) (pess_cons (pes_for pa (pei_seq (pee_name 7)) (peg_name 2 sc.nd) (pess_one (pes_set 1 sc.nd (pee_op om_add (pee_name 1) (pee_zfill (pee_ct cm_str T.n_str (pea_cons (pee_ix (xm_ix (hu1 hu)) (pee_name 2) pee_int) pea_nil)) pee_int))))) (pess_one (pes_ret (pee_name 1)))))
theorem sc_pack : FnScope ["letter", "head", "tail", "_", "number"] ["letter"] (defScope s_pack) := ⟨rfl, rfl, rfl, by decide +kernel, rfl, by decide +kernel, by decide +kernel⟩
noncomputable def b_pack : Mo Fl := mSeq (mAsg 1 (mJs [mUn fFmt (mUn (fSlot sl_sender) (mName 0)), mUn fFmt (mUn (fSlot sl_taker) (mName 0)), mUn fFmt (mUn (fSlot sl_key) (mName 0)), mUn (fFmtZ 6) (mUn (fSlot sl_value) (mName 0))] Str.empty)) (mSeq (mAsg 2 (mTx1 fJoin (mC (.str "")) (mLc [3, 4] (mIter (mUn (fSlot sl_counts) (mName 0))) (tgT 3 (tgsCons (tgN 3) (tgsCons (tgN 3) (tgsCons (tgN 4) tgsNil)))) mYes (mUn (fFmtZ 2) (mName 4))))) (mRet (mTx1 fEnc (mBin fAdd (mName 1) (mName 2)) (mC (.str "ascii")))))
noncomputable def m_pack : Fn := fnM 5 b_pack
theorem ok_pack (T : Tx K mg) : FnM P w K mg base 1 T.f_pack T.fd_pack ["letter"] m_pack := have sc := sc_pack; defM2 T.F_pack sc rfl fun cdv A outer s H E hr hu tk pa => pess_cons (pes_set 1 sc.nd (pee_joined (pej_cons (pee_fmt (pee_slot T.sl_sender (pee_name 0))) (pej_cons (pee_fmt (pee_slot T.sl_taker (pee_name 0))) (pej_cons (pee_fmt (pee_slot T.sl_key (pee_name 0))) (pej_cons (pee_fmt6 (pee_slot T.sl_value (pee_name 0))) pej_nil)))))) (pess_cons (pes_set 2 sc.nd (pee_strjoin pee_str (pee_lc sc.nd (own := [("_", 3), ("number", 4)]) (l := [3, 3, 4]) (pei_seq (pee_slot T.sl_counts (pee_name 0))) ⟨⟨rfl, by first | decide +kernel | (dsimp only [cxOf, envOfC, compEnvC, relabel]; decide +kernel) | exact of_decide_eq_true (by kernel_rfl), by first | decide +kernel | (dsimp only [cxOf, envOfC, compEnvC, relabel]; decide +kernel) | exact of_decide_eq_true (by kernel_rfl), by first | decide +kernel | (dsimp only [cxOf, envOfC, compEnvC, relabel]; decide +kernel) | exact of_decide_eq_true (by kernel_rfl), by first | decide +kernel | (dsimp only [cxOf, envOfC, compEnvC, relabel]; decide +kernel) | exact of_decide_eq_true (by kernel_rfl)⟩, (tgT_ne (tgsCons_ne (tgN_ne _) (tgsCons_ne (tgN_ne _) (tgsCons_ne (tgN_ne _) tgsNil_ne)))), by decide, fun _ _ _ _ _ => by exact peg_tup (pegs_cons (peg_name 3 sc.nd) (pegs_cons (peg_name 3 sc.nd) (pegs_cons (peg_name 4 sc.nd) pegs_nil))), fun _ _ _ _ _ => by exact pets_nil, fun _ _ _ _ _ => by exact pee_joined1 (pee_fmt2 (pee_name 4))⟩))) (pess_one (pes_ret (pee_encode (pee_op om_add (pee_name 1) (pee_name 2)) pee_str))))
theorem sc_law : FnScope ["_law_script", "_law_rows_here", "_law_known_here", "_law_place", "_law_passed", "_law_letter_here", "_law_due", "_law_named", "_law_sender", "_law_taker", "_law_key", "_law_value", "_law_counts_here"] ["_law_script"] (defScope s_law) := ⟨rfl, rfl, rfl, by decide +kernel, rfl, by decide +kernel, by decide +kernel⟩
noncomputable def b_law : Mo Fl := mSeq (mAsg 1 (mCell (mCall 3 m__law_rows (mCons (mCall 2 m__law_cell (mCons (mName 0) (mCons (mC (.int 0)) mNil))) (mCons (mC (.int 2)) (mCons (mC (.int 6)) mNil)))))) (mSeq (mAsg 2 (mCall 1 m__law_known (mCons (mCall 2 m__law_counts (mCons (mCall 2 m__law_cell (mCons (mName 0) (mCons (mC (.int 1)) mNil))) (mCons (mC (.int 6)) mNil))) mNil))) (mSeq (mIf (mB (mBin fEqD (mCall 1 m__law_lines (mCons (mName 1) mNil)) (mLst mNil))) (mSeq (mSub fSet (mLst (mCons (mC (.int 0)) (mCons (mC (.int 5)) (mCons (mC (.int 7)) mNil)))) (mName 1) (mC (.int 0))) (mSub fSet (mLst (mCons (mC (.int 3)) (mCons (mC (.int 5)) (mCons (mC (.int 7)) mNil)))) (mName 1) (mC (.int 1)))) mNext) (mSeq (mFor (mRng2 (mCons (mC (.int 2)) (mCons (mC (.int 5)) mNil))) (tgN 3) (mSeq (mAsgT (tgT 5 (tgsCons (tgN 8) (tgsCons (tgN 9) (tgsCons (tgN 10) (tgsCons (tgN 11) (tgsCons (tgN 12) tgsNil)))))) (mCall 3 m__law_letter (mCons (mName 1) (mCons (mName 2) (mCons (mCall 2 m__law_cell (mCons (mName 0) (mCons (mName 3) mNil))) mNil))))) (mSeq (mAsg 4 (mCell (mCB fList (mCons (mName 12) mNil)))) (mSeq (mAsg 5 (mMakeS "Letter" (mCons (mName 8) (mCons (mName 9) (mCons (mName 10) (mCons (mName 11) (mCons (mName 4) mNil))))))) (mSeq (mDrop (mMut .lst fAppend (mName 4) (mCons (mTup (mCons (mC (.int 0)) (mCons (mC (.int 0)) (mCons (mC (.int 0)) mNil)))) mNil))) (mSeq (mSub fSet (mTup (mCons (mC (.int 1)) (mCons (mC (.int 1)) (mCons (mC (.int 1)) mNil)))) (mName 4) (mC (.int 0))) (mSeq (mAsg 6 (mTup (mCons (mName 8) (mCons (mName 9) (mCons (mName 10) (mCons (mName 11) (mCons (mName 12) mNil))))))) (mSeq (mIf (mOr (mNot (mB (mCall 2 m__law_same_letter (mCons (mName 5) (mCons (mName 6) mNil))))) (mNot (mB (mCall 2 m__law_same_bytes (mCons (mCall 1 m_pack (mCons (mName 5) mNil)) (mCons (mCall 1 m__law_digits (mCons (mName 6) mNil)) mNil)))))) (mRet (mC (.bl false))) mNext) (mSeq (mIf (mOr (mNot (mB (mCall 2 m__law_same_letter (mCons (mName 5) (mCons (mName 6) mNil))))) (mNot (mB (mCall 2 m__law_same_bytes (mCons (mCall 1 m_pack (mCons (mName 5) mNil)) (mCons (mCall 1 m__law_digits (mCons (mName 6) mNil)) mNil)))))) (mRet (mC (.bl false))) mNext) (mSeq (mAsg 7 (mMakeS "Letter" (mCons (mName 8) (mCons (mName 9) (mCons (mName 10) (mCons (mName 11) (mCons (mCB fTuple (mCons (mName 12) mNil)) mNil))))))) (mIf (mOr (mNot (mB (mCall 2 m__law_same_letter (mCons (mName 7) (mCons (mName 6) mNil))))) (mNot (mB (mCall 2 m__law_same_bytes (mCons (mCall 1 m_pack (mCons (mName 7) mNil)) (mCons (mCall 1 m__law_digits (mCons (mName 6) mNil)) mNil)))))) (mRet (mC (.bl false))) mNext))))))))))) (mRet (mC (.bl true))))))
noncomputable def law_s0 : Mo Fl := (mAsg 1 (mCell (mCall 3 m__law_rows (mCons (mCall 2 m__law_cell (mCons (mName 0) (mCons (mC (.int 0)) mNil))) (mCons (mC (.int 2)) (mCons (mC (.int 6)) mNil))))))
noncomputable def law_s1 : Mo Fl := (mAsg 2 (mCall 1 m__law_known (mCons (mCall 2 m__law_counts (mCons (mCall 2 m__law_cell (mCons (mName 0) (mCons (mC (.int 1)) mNil))) (mCons (mC (.int 6)) mNil))) mNil)))
noncomputable def law_s2a_s0 : Mo Fl := (mSub fSet (mLst (mCons (mC (.int 0)) (mCons (mC (.int 5)) (mCons (mC (.int 7)) mNil)))) (mName 1) (mC (.int 0)))
noncomputable def law_s2a_s1 : Mo Fl := (mSub fSet (mLst (mCons (mC (.int 3)) (mCons (mC (.int 5)) (mCons (mC (.int 7)) mNil)))) (mName 1) (mC (.int 1)))
noncomputable def law_s2a_t1 : Mo Fl := law_s2a_s1
noncomputable def law_s2a_t0 : Mo Fl := mSeq law_s2a_s0 law_s2a_t1
noncomputable def law_s2 : Mo Fl := mIf (mB (mBin fEqD (mCall 1 m__law_lines (mCons (mName 1) mNil)) (mLst mNil))) law_s2a_t0 mNext
noncomputable def law_s3b_s0 : Mo Fl := (mAsgT (tgT 5 (tgsCons (tgN 8) (tgsCons (tgN 9) (tgsCons (tgN 10) (tgsCons (tgN 11) (tgsCons (tgN 12) tgsNil)))))) (mCall 3 m__law_letter (mCons (mName 1) (mCons (mName 2) (mCons (mCall 2 m__law_cell (mCons (mName 0) (mCons (mName 3) mNil))) mNil)))))
noncomputable def law_s3b_s1 : Mo Fl := (mAsg 4 (mCell (mCB fList (mCons (mName 12) mNil))))
noncomputable def law_s3b_s2 : Mo Fl := (mAsg 5 (mMakeS "Letter" (mCons (mName 8) (mCons (mName 9) (mCons (mName 10) (mCons (mName 11) (mCons (mName 4) mNil)))))))
noncomputable def law_s3b_s3 : Mo Fl := (mDrop (mMut .lst fAppend (mName 4) (mCons (mTup (mCons (mC (.int 0)) (mCons (mC (.int 0)) (mCons (mC (.int 0)) mNil)))) mNil)))
noncomputable def law_s3b_s4 : Mo Fl := (mSub fSet (mTup (mCons (mC (.int 1)) (mCons (mC (.int 1)) (mCons (mC (.int 1)) mNil)))) (mName 4) (mC (.int 0)))
noncomputable def law_s3b_s5 : Mo Fl := (mAsg 6 (mTup (mCons (mName 8) (mCons (mName 9) (mCons (mName 10) (mCons (mName 11) (mCons (mName 12) mNil)))))))
noncomputable def law_s3b_s6 : Mo Fl := (mIf (mOr (mNot (mB (mCall 2 m__law_same_letter (mCons (mName 5) (mCons (mName 6) mNil))))) (mNot (mB (mCall 2 m__law_same_bytes (mCons (mCall 1 m_pack (mCons (mName 5) mNil)) (mCons (mCall 1 m__law_digits (mCons (mName 6) mNil)) mNil)))))) (mRet (mC (.bl false))) mNext)
noncomputable def law_s3b_s7 : Mo Fl := (mIf (mOr (mNot (mB (mCall 2 m__law_same_letter (mCons (mName 5) (mCons (mName 6) mNil))))) (mNot (mB (mCall 2 m__law_same_bytes (mCons (mCall 1 m_pack (mCons (mName 5) mNil)) (mCons (mCall 1 m__law_digits (mCons (mName 6) mNil)) mNil)))))) (mRet (mC (.bl false))) mNext)
noncomputable def law_s3b_s8 : Mo Fl := (mAsg 7 (mMakeS "Letter" (mCons (mName 8) (mCons (mName 9) (mCons (mName 10) (mCons (mName 11) (mCons (mCB fTuple (mCons (mName 12) mNil)) mNil)))))))
noncomputable def law_s3b_s9 : Mo Fl := (mIf (mOr (mNot (mB (mCall 2 m__law_same_letter (mCons (mName 7) (mCons (mName 6) mNil))))) (mNot (mB (mCall 2 m__law_same_bytes (mCons (mCall 1 m_pack (mCons (mName 7) mNil)) (mCons (mCall 1 m__law_digits (mCons (mName 6) mNil)) mNil)))))) (mRet (mC (.bl false))) mNext)
noncomputable def law_s3b_t9 : Mo Fl := law_s3b_s9
noncomputable def law_s3b_t8 : Mo Fl := mSeq law_s3b_s8 law_s3b_t9
noncomputable def law_s3b_t7 : Mo Fl := mSeq law_s3b_s7 law_s3b_t8
noncomputable def law_s3b_t6 : Mo Fl := mSeq law_s3b_s6 law_s3b_t7
noncomputable def law_s3b_t5 : Mo Fl := mSeq law_s3b_s5 law_s3b_t6
noncomputable def law_s3b_t4 : Mo Fl := mSeq law_s3b_s4 law_s3b_t5
noncomputable def law_s3b_t3 : Mo Fl := mSeq law_s3b_s3 law_s3b_t4
noncomputable def law_s3b_t2 : Mo Fl := mSeq law_s3b_s2 law_s3b_t3
noncomputable def law_s3b_t1 : Mo Fl := mSeq law_s3b_s1 law_s3b_t2
noncomputable def law_s3b_t0 : Mo Fl := mSeq law_s3b_s0 law_s3b_t1
noncomputable def law_s3 : Mo Fl := mFor (mRng2 (mCons (mC (.int 2)) (mCons (mC (.int 5)) mNil))) (tgN 3) law_s3b_t0
noncomputable def law_s4 : Mo Fl := (mRet (mC (.bl true)))
noncomputable def law_t4 : Mo Fl := law_s4
noncomputable def law_t3 : Mo Fl := mSeq law_s3 law_t4
noncomputable def law_t2 : Mo Fl := mSeq law_s2 law_t3
noncomputable def law_t1 : Mo Fl := mSeq law_s1 law_t2
noncomputable def law_t0 : Mo Fl := mSeq law_s0 law_t1
theorem law_cut : b_law = law_t0 := rfl
noncomputable def m_law : Fn := fnM 13 b_law
theorem ok_law (T : Tx K mg) : FnM P w K mg base 4 T.f_law T.fd_law ["_law_script"] m_law := have sc := sc_law; defM2 T.F_law sc rfl fun cdv A outer s H E hr hu tk pa => pess_cons (pes_set 1 sc.nd (pee_cell (pee_callN rfl (ok__law_rows T) (hr.mono (by decide)) T.g__law_rows T.F__law_rows.kp T.b__law_rows tk (pea_cons (pee_callN rfl (ok__law_cell T) (hr.mono (by decide)) T.g__law_cell T.F__law_cell.kp T.b__law_cell tk (pea_cons (pee_name 0) (pea_cons pee_int pea_nil))) (pea_cons pee_int (pea_cons pee_int pea_nil)))))) (pess_cons (pes_set 2 sc.nd (pee_callN rfl (ok__law_known T) (hr.mono (by decide)) T.g__law_known T.F__law_known.kp T.b__law_known tk (pea_cons (pee_callN rfl (ok__law_counts T) (hr.mono (by decide)) T.g__law_counts T.F__law_counts.kp T.b__law_counts tk (pea_cons (pee_callN rfl (ok__law_cell T) (hr.mono (by decide)) T.g__law_cell T.F__law_cell.kp T.b__law_cell tk (pea_cons (pee_name 0) (pea_cons pee_int pea_nil))) (pea_cons pee_int pea_nil))) pea_nil))) (pess_cons (pes_if (pet_cmp (om_eqD (hu64 hu)) (pee_callN rfl (ok__law_lines T) (hr.mono (by decide)) T.g__law_lines T.F__law_lines.kp T.b__law_lines tk (pea_cons (pee_name 1) pea_nil)) (pee_lst pea_nil)) (pess_cons (pes_sub (set_any (hu1 hu)) sr_any (pee_lst (pea_cons pee_int (pea_cons pee_int (pea_cons pee_int pea_nil)))) (pee_name 1) pee_int) (pess_one (pes_sub (set_any (hu1 hu)) sr_any (pee_lst (pea_cons pee_int (pea_cons pee_int (pea_cons pee_int pea_nil)))) (pee_name 1) pee_int))) pess_nil) (pess_cons (pes_for pa (pei_rng2 T.n_range (pea_cons pee_int (pea_cons pee_int pea_nil))) (peg_name 3 sc.nd) (pess_cons (pes_asg (pee_callN rfl (ok__law_letter T) (hr.mono (by decide)) T.g__law_letter T.F__law_letter.kp T.b__law_letter tk (pea_cons (pee_name 1) (pea_cons (pee_name 2) (pea_cons (pee_callN rfl (ok__law_cell T) (hr.mono (by decide)) T.g__law_cell T.F__law_cell.kp T.b__law_cell tk (pea_cons (pee_name 0) (pea_cons (pee_name 3) pea_nil))) pea_nil)))) (peg_tup (pegs_cons (peg_name 8 sc.nd) (pegs_cons (peg_name 9 sc.nd) (pegs_cons (peg_name 10 sc.nd) (pegs_cons (peg_name 11 sc.nd) (pegs_cons (peg_name 12 sc.nd) pegs_nil))))))) (pess_cons (pes_set 4 sc.nd (pee_cell (pee_ct cm_list T.n_list (pea_cons (pee_name 12) pea_nil)))) (pess_cons (pes_set 5 sc.nd (pee_make5 T.c_Letter ⟨T.mk_Letter, T.mt_Letter___init__.at_, T.mt_Letter___init__.fn, T.kp_Letter⟩ (slok_Letter T) (hr.mono (by decide)) T.b_Letter___init__ tk (pea_cons (pee_name 8) (pea_cons (pee_name 9) (pea_cons (pee_name 10) (pea_cons (pee_name 11) (pea_cons (pee_name 4) pea_nil))))))) (pess_cons (pes_expr (pee_mut (k := .lst) PySem.F.plainAttrs_list PySem.F.slot_list_append PySem.F.type_list_append mt_append mu_append (pee_name 4) (pea_cons (pee_tup (pea_cons pee_int (pea_cons pee_int (pea_cons pee_int pea_nil)))) pea_nil))) (pess_cons (pes_sub (set_any (hu1 hu)) sr_any (pee_tup (pea_cons pee_int (pea_cons pee_int (pea_cons pee_int pea_nil)))) (pee_name 4) pee_int) (pess_cons (pes_set 6 sc.nd (pee_tup (pea_cons (pee_name 8) (pea_cons (pee_name 9) (pea_cons (pee_name 10) (pea_cons (pee_name 11) (pea_cons (pee_name 12) pea_nil))))))) (pess_cons (pes_if ((pew_or (pet_not (pet_val (pee_callN rfl (ok__law_same_letter T) (hr.mono (by decide)) T.g__law_same_letter T.F__law_same_letter.kp T.b__law_same_letter tk (pea_cons (pee_name 5) (pea_cons (pee_name 6) pea_nil))))) (pew_or1 (pet_not (pet_val (pee_callN rfl (ok__law_same_bytes T) (hr.mono (by decide)) T.g__law_same_bytes T.F__law_same_bytes.kp T.b__law_same_bytes tk (pea_cons (pee_callN rfl (ok_pack T) (hr.mono (by decide)) T.g_pack T.F_pack.kp T.b_pack tk (pea_cons (pee_name 5) pea_nil)) (pea_cons (pee_callN rfl (ok__law_digits T) (hr.mono (by decide)) T.g__law_digits T.F__law_digits.kp T.b__law_digits tk (pea_cons (pee_name 6) pea_nil)) pea_nil))))))).pt) (pess_one (pes_ret pee_bl)) pess_nil) (pess_cons (pes_if ((pew_or (pet_not (pet_val (pee_callN rfl (ok__law_same_letter T) (hr.mono (by decide)) T.g__law_same_letter T.F__law_same_letter.kp T.b__law_same_letter tk (pea_cons (pee_name 5) (pea_cons (pee_name 6) pea_nil))))) (pew_or1 (pet_not (pet_val (pee_callN rfl (ok__law_same_bytes T) (hr.mono (by decide)) T.g__law_same_bytes T.F__law_same_bytes.kp T.b__law_same_bytes tk (pea_cons (pee_callN rfl (ok_pack T) (hr.mono (by decide)) T.g_pack T.F_pack.kp T.b_pack tk (pea_cons (pee_name 5) pea_nil)) (pea_cons (pee_callN rfl (ok__law_digits T) (hr.mono (by decide)) T.g__law_digits T.F__law_digits.kp T.b__law_digits tk (pea_cons (pee_name 6) pea_nil)) pea_nil))))))).pt) (pess_one (pes_ret pee_bl)) pess_nil) (pess_cons (pes_set 7 sc.nd (pee_make5 T.c_Letter ⟨T.mk_Letter, T.mt_Letter___init__.at_, T.mt_Letter___init__.fn, T.kp_Letter⟩ (slok_Letter T) (hr.mono (by decide)) T.b_Letter___init__ tk (pea_cons (pee_name 8) (pea_cons (pee_name 9) (pea_cons (pee_name 10) (pea_cons (pee_name 11) (pea_cons (pee_ct cm_tuple T.n_tuple (pea_cons (pee_name 12) pea_nil)) pea_nil))))))) (pess_one (pes_if ((pew_or (pet_not (pet_val (pee_callN rfl (ok__law_same_letter T) (hr.mono (by decide)) T.g__law_same_letter T.F__law_same_letter.kp T.b__law_same_letter tk (pea_cons (pee_name 7) (pea_cons (pee_name 6) pea_nil))))) (pew_or1 (pet_not (pet_val (pee_callN rfl (ok__law_same_bytes T) (hr.mono (by decide)) T.g__law_same_bytes T.F__law_same_bytes.kp T.b__law_same_bytes tk (pea_cons (pee_callN rfl (ok_pack T) (hr.mono (by decide)) T.g_pack T.F_pack.kp T.b_pack tk (pea_cons (pee_name 7) pea_nil)) (pea_cons (pee_callN rfl (ok__law_digits T) (hr.mono (by decide)) T.g__law_digits T.F__law_digits.kp T.b__law_digits tk (pea_cons (pee_name 6) pea_nil)) pea_nil))))))).pt) (pess_one (pes_ret pee_bl)) pess_nil)))))))))))) (pess_one (pes_ret pee_bl)))))
end

end Z
set_option linter.all false
set_option maxRecDepth 100000
namespace Z
open PySem PySem.Spec PyProof.Rows L2
theorem x_cell (ns : List Int) (k : Nat) (G : List Cell) : m__law_cell [.frl (ns.map W.int), .int k] G = some (.ok (.val (.int (ns.getD k 0))), G) := by
  unfold m__law_cell
  rw [fnM_e]
  by_cases h : k < ns.length
  · simp [b__law_cell, h, atI_mapI]
  · simp [b__law_cell, h]
theorem x_is_int (k : Int) (G : List Cell) : m__law_is_int [.int k] G = some (.ok (.val (.bl true)), G) := by
  unfold m__law_is_int
  rw [fnM_e]
  simp [b__law_is_int, tyOfW, ti_int, ti_bool, tabAt]
theorem x_numbers (c salt : Int) (ls : List Int) (hl : ∀ l ∈ ls, 0 < l ∧ l.natAbs.log2 < 9000) (hn : ls.length ≤ 1000) (G : List Cell) :
    ∃ xs : List Int, m__law_numbers [.int c, .int salt, .lst (ls.map W.int)] G = some (.ok (.own (.lst (xs.map W.int))), G) ∧ xs.length = ls.length ∧ ∀ (i : Nat) (x l : Int), xs[i]? = some x → ls[i]? = some l → 0 ≤ x ∧ x < l := by
  unfold m__law_numbers
  rw [fnM_e]
  simp [b__law_numbers, sz]
  generalize hF : forL _ _ _ _ = F
  obtain ⟨s', rfl, xs, rest, v, rfl, h1, h2⟩ := forL_at hF (fun i s => ∃ (xs : List Int) (rest : Int) (v : SV), s = ⟨[.val (.int c), .val (.int salt), .val (.lst (ls.map W.int)), .val (.int rest), .own (.lst (xs.map W.int)), v], G⟩ ∧ xs.length = i ∧
    ∀ (i : Nat) (x l : Int), xs[i]? = some x → ls[i]? = some l → 0 ≤ x ∧ x < l) ⟨[], c, .non, rfl, rfl, fun i x l h => by simp at h⟩ (by
      rintro i hi s ⟨xs, rest, v, rfl, h1, h2⟩
      simp at hi
      have hm : ls[i] ∈ ls := List.getElem_mem hi
      obtain ⟨l1, l2⟩ := hl _ hm
      have ext : ∀ y : Int, 0 ≤ y → y < ls[i] → ∀ (j : Nat) (x l : Int), (xs ++ [y])[j]? = some x → ls[j]? = some l → 0 ≤ x ∧ x < l := fun y y0 y1 j x l e1 e2 => by
        rcases Nat.lt_or_ge j xs.length with q | q
        · rw [List.getElem?_append_left q] at e1
          exact h2 j x l e1 e2
        · rw [List.getElem?_append_right q] at e1
          have : j = i := by
            have := get_lt e1
            simp at this
            omega
          subst this
          rw [h1] at e1
          simp at e1
          rw [List.getElem?_eq_getElem hi] at e2
          cases e2
          subst e1
          exact ⟨y0, y1⟩
      have s1 : xs.length < sz := by show _ < 16777216; omega
      by_cases hc : c < 1000000000000000000
      · have l7 : Nat.log2 7 < 9000 := by decide
        simp [fAppend, s1, CPow, CMul, CDivW, hc, l1, l7]
        exact ⟨xs ++ [(rest * 75 + 74 + salt) % 65537 / 7 % ls[i]], by simp, by simp [h1], ext _ (Int.emod_nonneg _ (by omega)) (Int.emod_lt_of_pos _ l1)⟩
      · simp [fAppend, s1, CPow, CMul, CDivW, hc, l1, l2]
        exact ⟨xs ++ [rest % ls[i]], by simp, by simp [h1], ext _ (Int.emod_nonneg _ (by omega)) (Int.emod_lt_of_pos _ l1)⟩)
  simp
  exact ⟨xs, rfl, by simpa using h1, h2⟩
def tupI (xs : List Int) : W := .tup (xs.map W.int)
def lstI (xs : List Int) : W := .lst (xs.map W.int)
@[simp] theorem ty_int {i : Int} : tyOfW (.int i) = some (.ty "int") := rfl
@[simp] theorem ty_bl {i : Bool} : tyOfW (.bl i) = some (.ty "bool") := rfl
@[simp] theorem ty_lst {i : List W} : tyOfW (.lst i) = some (.ty "list") := rfl
@[simp] theorem ty_frl {i : List W} : tyOfW (.frl i) = some (.ty "list") := rfl
@[simp] theorem ty_tup {i : List W} : tyOfW (.tup i) = some (.ty "tuple") := rfl
@[simp] theorem fFld_o {nms : List Str} {f nm : Str} {fs : List (Str × W)} : fFld nms f (.obj nm fs) = if nm ∈ nms then (fs.lookup f).map .imm else none := rfl
theorem emb_row : Emb tupI 1 := emb_tup emb_int
theorem emb_rows : Emb (fun rs : List (List Int) => W.lst (rs.map tupI)) 2 := emb_lst emb_row
section
variable {r : List SV} {G : List Cell} {s : S} {rs : List (List Int)} {ms : List Int} {xs : List W}
@[simp] theorem look_tupI {k : List Int} : look (.val (tupI k)) ⟨r, G⟩ = some (.ok (tupI k), ⟨r, G⟩) := rfl
@[simp] theorem look_lstI {k : List Int} : look (.val (lstI k)) ⟨r, G⟩ = some (.ok (lstI k), ⟨r, G⟩) := rfl
@[simp] theorem deref_tupI {k : List Int} : derefW s (tupI k) = some (tupI k) := rfl
@[simp] theorem deref_lstI {k : List Int} : derefW s (lstI k) = some (lstI k) := rfl
@[simp] theorem walk_tupI {k : List Int} : walkOf s (tupI k) = some ⟨k.map W.int, none⟩ := rfl
@[simp] theorem walk_lstI {k : List Int} : walkOf s (lstI k) = some ⟨k.map W.int, none⟩ := rfl
@[simp] theorem ty_tupI {k : List Int} : tyOfW (tupI k) = some (.ty "tuple") := rfl
@[simp] theorem ty_lstI {k : List Int} : tyOfW (lstI k) = some (.ty "list") := rfl
end
theorem emb_bl : Emb W.bl 0 := ⟨PyData.bool, fun _ => rfl, fun _ => rfl, fun _ => Nat.le_refl _, fun x y => by cases x <;> cases y <;> rfl⟩
theorem fNeD_b (a b : Bool) : fNeD (.bl a) (.bl b) = some (.imm (.bl (decide (a ≠ b)))) := fNeD_emb emb_bl (by decide) a b
theorem fNeD_bb (a : Bool) : fNeD (.bl a) (.bl a) = some (.imm (.bl false)) := by rw [fNeD_b]; simp
theorem fAll_trues {γ : Type} (xs : List γ) : fAll [.lst (xs.map fun _ => W.bl true)] = some (.imm (.bl true)) := by
  have : blsOf (xs.map fun _ => W.bl true) = some (xs.map fun _ => true) := by
    induction xs with
    | nil => rfl
    | cons x xs ih => simp [blsOf, ih]
  unfold fAll
  simp [this]
theorem fNeD_same (a : Int) : fNeD (.int a) (.int a) = some (.imm (.bl false)) := by rw [fNeD_emb emb_int (by decide)]; simp
theorem x_isints {a b c : SV} (xs : List Int) (h : xs.length ≤ sz) (G : List Cell) : lcL [3] (tgN 3) mYes (mCall 1 m__law_is_int (mCons (mName 3) mNil)) ⟨xs.map W.int, none⟩ (xs.map W.int) [] ⟨[a, b, c, .non], G⟩ =
    some (.ok (.own (.lst (xs.map fun _ => W.bl true))), ⟨[a, b, c, .non], G⟩) := by
  rw [lc_all (by exact trivial) (fun _ => W.bl true)]
  · simp
  · intro k hk
    exact ⟨⟨[a, b, c, .val (.int k)], G⟩, by simp, ⟨[a, b, c, .val (.int k)], G⟩, by simp [x_is_int], by simp⟩
  · simpa using h
theorem x_same (rs : List (List Int)) (hl : rs.length ≤ 1000) (hr : ∀ xs ∈ rs, xs.length ≤ sz) (G : List Cell) : m__law_same_rows [.lst (rs.map tupI), .lst (rs.map tupI)] G = some (.ok (.val (.bl true)), G) := by
  unfold m__law_same_rows
  rw [fnM_e]
  have hb : Rk (rs.length : Int) := rk_nat (by omega)
  have t1 : tabAt ti_list (.ty "list") = some true := by decide +kernel
  have t2 : tabAt ti_tuple (.ty "tuple") = some true := by decide +kernel
  simp [b__law_same_rows, t1, fNeD_same, hb]
  generalize hF : forL _ _ _ _ = F
  obtain ⟨s', rfl, v2, rfl⟩ := forL_at hF (fun i s => ∃ v2, s = ⟨[.val (.lst (rs.map tupI)), .val (.lst (rs.map tupI)), v2, .non], G⟩) ⟨_, rfl⟩ (by
    rintro i hi s ⟨v2, rfl⟩
    simp [rngW] at hi
    have hi' : i < rs.length := by omega
    have e : atI (rs.map tupI) (i : Int) = some (tupI rs[i]) := atI_nat (by simp [hi'])
    have hne : fNeD (tupI rs[i]) (tupI rs[i]) = some (.imm (.bl false)) := by rw [fNeD_emb emb_row (by decide)]; simp
    have ha := fAll_trues rs[i]
    have hq := hr rs[i] (List.getElem_mem hi')
    simp [rngW, e, t2, hne, x_isints _ hq, ha])
  simp
@[simp] theorem intsOf_ints : ∀ xs : List Int, intsOf (xs.map W.int) = some xs
  | [] => rfl
  | x :: xs => by simp [intsOf, intsOf_ints xs]
def canon (xs : List Int) : List Int := ((List.range 8).filter fun (k : Nat) => decide ((k : Int) ∈ xs)).map fun (k : Nat) => (k : Int)
def bad (k : Int) : Bool := !(decide (0 ≤ k) && decide (k < 8))
theorem canon_e (xs : List Int) : canon xs = ((List.range 8).filter fun (k : Nat) => decide ((0 : Int) + (k : Int) ∈ xs)).map fun (k : Nat) => (0 : Int) + (k : Int) := by
  unfold canon
  simp only [Int.zero_add]
def mask (xs : List Int) : Int := (xs.map fun k => (2 : Int) ^ k.toNat).sum
theorem canon_mem {xs : List Int} {k : Int} (h : k ∈ canon xs) : 0 ≤ k ∧ k < 8 ∧ k ∈ xs := by
  unfold canon at h
  simp at h
  obtain ⟨j, ⟨h1, h2⟩, rfl⟩ := h
  exact ⟨by omega, by omega, h2⟩
theorem canon_len (xs : List Int) : (canon xs).length ≤ 8 := by
  unfold canon
  rw [List.length_map]
  exact Nat.le_trans (List.length_filter_le _ _) (by simp)
theorem canon_idem (xs : List Int) : canon (canon xs) = canon xs := by
  have : ∀ k : Int, k ∈ canon (canon xs) ↔ k ∈ canon xs := by
    intro k
    constructor
    · intro h; exact (canon_mem h).2.2
    · intro h
      obtain ⟨a, b, _⟩ := canon_mem h
      unfold canon
      simp
      exact ⟨k.toNat, ⟨by omega, by rw [Int.toNat_of_nonneg a]; simpa [canon] using h⟩, Int.toNat_of_nonneg a⟩
  unfold canon
  congr 1
  apply List.filter_congr
  intro k hk
  have hk8 := List.mem_range.mp hk
  by_cases h : (k : Int) ∈ xs
  · have : (k : Int) ∈ canon xs := by
      unfold canon; simp; exact ⟨k, ⟨hk8, h⟩, rfl⟩
    simpa [h, canon] using this
  · have : ¬ (k : Int) ∈ canon xs := fun z => h (canon_mem z).2.2
    simpa [h, canon] using this
theorem fSet_nat {ws : List W} {k : Nat} {w : W} (h : k < ws.length) : fSet (.lst ws) (.int k) w = some (.lst (ws.set k w)) := by
  have e : ixN ws.length (k : Int) = some k := by
    unfold ixN
    simp [h]
  unfold fSet orf3 fSetL
  simp [e]
theorem canon_nodup (xs : List Int) : (canon xs).Nodup := by
  unfold canon
  unfold List.Nodup
  rw [List.pairwise_map]
  refine List.Pairwise.imp ?_ (List.Pairwise.filter _ List.nodup_range)
  intro a b h z
  exact h (by omega)
end Z

set_option linter.all false
set_option maxRecDepth 100000
namespace Z
open PySem PySem.Spec PyProof.Rows L2
/-- the value of a layout with these rows -/
def lay (rs : List (List Int)) : W := .obj "Layout" [("rows", .lst (rs.map tupI)), ("masks", .lst (rs.map fun xs => W.int (mask xs)))]
theorem lay_fold {rs : List (List Int)} : W.obj "Layout" [("rows", .lst (rs.map tupI)), ("masks", .lst (rs.map fun xs => W.int (mask xs)))] = lay rs := rfl
@[simp] theorem lk_rows {a b : W} : List.lookup ("rows" : Str) [("rows", a), ("masks", b)] = some a := rfl
@[simp] theorem lk_masks {a b : W} : List.lookup ("masks" : Str) [("rows", a), ("masks", b)] = some b := rfl
section
variable {r : List SV} {G : List Cell} {s : S} {rs : List (List Int)} {xs : List W}
@[simp] theorem look_lay : look (.val (lay rs)) ⟨r, G⟩ = some (.ok (lay rs), ⟨r, G⟩) := rfl
@[simp] theorem deref_lay : derefW s (lay rs) = some (lay rs) := rfl
@[simp high] theorem chk_lay_check_copy : chk "Layout" "check_copy" (lay rs) ⟨r, G⟩ = some (.ok (), ⟨r, G⟩) := rfl
@[simp high] theorem chk_lay_is_line : chk "Layout" "is_line" (lay rs) ⟨r, G⟩ = some (.ok (), ⟨r, G⟩) := rfl
@[simp high] theorem chk_lay_lines : chk "Layout" "lines" (lay rs) ⟨r, G⟩ = some (.ok (), ⟨r, G⟩) := rfl
@[simp high] theorem chk_lay_shared : chk "Layout" "shared" (lay rs) ⟨r, G⟩ = some (.ok (), ⟨r, G⟩) := rfl
@[simp high] theorem chk_lay_keepers : chk "Layout" "keepers" (lay rs) ⟨r, G⟩ = some (.ok (), ⟨r, G⟩) := rfl
@[simp high] theorem chk_lay_with_key : chk "Layout" "with_key" (lay rs) ⟨r, G⟩ = some (.ok (), ⟨r, G⟩) := rfl
@[simp high] theorem chk_lay_without_key : chk "Layout" "without_key" (lay rs) ⟨r, G⟩ = some (.ok (), ⟨r, G⟩) := rfl
@[simp high] theorem chk1_lay : chk1 "Layout" (lay rs :: xs) ⟨r, G⟩ = some (.ok (), ⟨r, G⟩) := by simp [lay]
@[simp] theorem ty_lay : tyOfW (lay rs) = some (.own "Layout") := rfl
@[simp] theorem fldL_lay : fldS "Layout" "rows" rdL (lay rs) = if rs.length ≤ sz then some (rs.map tupI) else none := by simp [fldS, rdL, lay]
end
def RowW (G : List Cell) (w : W) (xs : List Int) : Prop := w = tupI xs ∨ w = lstI xs ∨ ∃ n, w = .ref n ∧ G[n]? = some (.lst (xs.map W.int))
def RowsR (G : List Cell) (R : W) (ws : List W) : Prop := R = .lst ws ∨ R = .tup ws ∨ ∃ m, R = .ref m ∧ G[m]? = some (.lst ws)
theorem RowW.use {G : List Cell} {w : W} {xs : List Int} (h : RowW G w xs) : ∃ o w', (∀ r, walkOf ⟨r, G⟩ w = some ⟨xs.map W.int, o⟩) ∧ (∀ r, Wk.ok ⟨xs.map W.int, o⟩ ⟨r, G⟩) ∧ (∀ r, look (.val w) ⟨r, G⟩ = some (.ok w', ⟨r, G⟩)) ∧ ∀ k neg, fIn neg (.int k) w' = some (.imm (.bl (decide (k ∈ xs) != neg))) := by
  rcases h with rfl | rfl | ⟨n, rfl, h⟩
  · exact ⟨none, tupI xs, fun _ => rfl, fun _ => trivial, fun _ => rfl, fun k neg => fIn_tupI neg k xs⟩
  · exact ⟨none, lstI xs, fun _ => rfl, fun _ => trivial, fun _ => rfl, fun k neg => fIn_lI neg k xs⟩
  · exact ⟨some n, .lst (xs.map W.int), fun _ => by simp [h], fun _ => h, fun _ => by simp [h], fun k neg => fIn_lI neg k xs⟩
theorem RowsR.use {G : List Cell} {R : W} {ws : List W} (h : RowsR G R ws) : ∃ o R', (∀ r, walkOf ⟨r, G⟩ R = some ⟨ws, o⟩) ∧ (∀ r, Wk.ok ⟨ws, o⟩ ⟨r, G⟩) ∧ (∀ r, look (.val R) ⟨r, G⟩ = some (.ok R', ⟨r, G⟩)) ∧ fLen [R'] = some (.imm (.int ws.length)) := by
  rcases h with rfl | rfl | ⟨n, rfl, h⟩
  · exact ⟨none, _, fun _ => rfl, fun _ => trivial, fun _ => rfl, rfl⟩
  · exact ⟨none, _, fun _ => rfl, fun _ => trivial, fun _ => rfl, rfl⟩
  · exact ⟨some n, .lst ws, fun _ => by simp [h], fun _ => h, fun _ => by simp [h], rfl⟩
/-- the first wrong key -/
def fb (rss : List (List Int)) : Option Int := rss.flatten.find? bad
theorem fb_none {rss : List (List Int)} (h : ∀ x ∈ rss.flatten, bad x = false) : fb rss = none := by
  unfold fb
  rw [List.find?_eq_none]
  intro x hx; simp [h x hx]
theorem first_bad {rss : List (List Int)} {i : Nat} {xs : List Int} {j : Nat} {k : Int} (h1 : ∀ x ∈ (rss.take i).flatten, bad x = false) (h2 : rss[i]? = some xs) (h3 : ∀ x ∈ xs.take j, bad x = false) (h4 : xs[j]? = some k) (h5 : bad k = true) : fb rss = some k := by
  have hi := get_lt h2
  have hj := get_lt h4
  have e1 : rss = rss.take i ++ xs :: rss.drop (i + 1) := by
    rw [List.getElem?_eq_getElem hi] at h2
    cases h2
    rw [← drop_get hi, List.take_append_drop]
  have e2 : xs = xs.take j ++ k :: xs.drop (j + 1) := by
    rw [List.getElem?_eq_getElem hj] at h4
    cases h4
    rw [← drop_get hj, List.take_append_drop]
  unfold fb
  rw [e1, List.flatten_append, List.flatten_cons, List.find?_append]
  have n1 : (rss.take i).flatten.find? bad = none := by
    rw [List.find?_eq_none]
    intro x hx; simp [h1 x hx]
  rw [n1, Option.none_or, List.find?_append]
  have n2 : xs.find? bad = some k := by
    rw [e2, List.find?_append]
    have : (xs.take j).find? bad = none := by
      rw [List.find?_eq_none]
      intro x hx; simp [h3 x hx]
    rw [this, Option.none_or, List.find?_cons, h5]
  rw [n2]; rfl
theorem fb_canon {rss : List (List Int)} (h : ∀ xs ∈ rss, ∀ k ∈ xs, 0 ≤ k ∧ k < 8) : fb rss = none := fb_none fun x hx => by
  obtain ⟨l, hl, hx⟩ := List.mem_flatten.mp hx
  obtain ⟨a, b⟩ := h l hl x hx
  simp [bad, a, b]
theorem RowW.mono {G G' : List Cell} {w : W} {xs : List Int} (h : RowW G w xs) (hp : ∀ (n : Nat) c, G[n]? = some c → G'[n]? = some c) : RowW G' w xs := by
  rcases h with h | h | ⟨n, e, h⟩
  · exact .inl h
  · exact .inr (.inl h)
  · exact .inr (.inr ⟨n, e, hp _ _ h⟩)
theorem RowsR.mono {G G' : List Cell} {w : W} {xs : List W} (h : RowsR G w xs) (hp : ∀ (n : Nat) c, G[n]? = some c → G'[n]? = some c) : RowsR G' w xs := by
  rcases h with h | h | ⟨n, e, h⟩
  · exact .inl h
  · exact .inr (.inl h)
  · exact .inr (.inr ⟨n, e, hp _ _ h⟩)
theorem app_pre {G E : List Cell} (n : Nat) (c : Cell) (h : G[n]? = some c) : (G ++ E)[n]? = some c := by
  rw [List.getElem?_append_left (get_lt h)]; exact h
@[simp] theorem noRefs_ints : ∀ xs : List Int, noRefs (xs.map W.int) = true
  | [] => rfl
  | x :: xs => by simp [noRefs, noRef, noRefs_ints xs]
@[simp] theorem noRefs_tups : ∀ xs : List (List Int), noRefs (xs.map tupI) = true
  | [] => rfl
  | x :: xs => by simp [noRefs, noRef, tupI, noRefs_tups xs]
theorem noRefs_masks : ∀ rs : List (List Int), noRefs (rs.map fun xs => W.int (mask xs)) = true
  | [] => rfl
  | x :: xs => by simp [noRefs, noRef, noRefs_masks xs]
end Z

set_option linter.all false
set_option maxRecDepth 100000
namespace Z
open PySem PySem.Spec PyProof.Rows L2
theorem fAdd_ll {a b : List W} (h : a.length + b.length ≤ sz) : fAdd (.lst a) (.lst b) = some (.newl (a ++ b)) := by
  unfold fAdd orf
  rw [show fI (fun i j => i + j) (.lst a) (.lst b) = none from rfl]
  simp only []
  rw [show fAddS (.lst a) (.lst b) = none from rfl]
  simp only []
  rw [show fAddL (.lst a) (.lst b) = some (.newl (a ++ b)) from by unfold fAddL; simp [h]]
theorem canon_filter {n : Nat} (hn : n ≤ 8) (p : Nat → Bool) : canon (((List.range n).filter p).map fun (k : Nat) => (k : Int)) = ((List.range n).filter p).map fun (k : Nat) => (k : Int) := by
  have key : ∀ k : Nat, decide ((k : Int) ∈ ((List.range n).filter p).map fun (k : Nat) => (k : Int)) = (decide (k < n) && p k) := by
    intro k
    rw [Bool.eq_iff_iff]
    simp only [decide_eq_true_eq, List.mem_map, List.mem_filter, List.mem_range, Bool.and_eq_true]
    constructor
    · rintro ⟨j, hj, e⟩
      have : j = k := by omega
      subst this; exact hj
    · intro h; exact ⟨k, h, rfl⟩
  obtain ⟨m, hm⟩ : ∃ m, 8 = n + m := ⟨8 - n, by omega⟩
  have e8 : List.range 8 = List.range n ++ (List.range m).map (n + ·) := by rw [← List.range_add, ← hm]
  unfold canon
  rw [List.filter_congr (q := fun k => decide (k < n) && p k) (fun k _ => key k), e8, List.filter_append, List.map_append]
  have z1 : ((List.range m).map (n + ·)).filter (fun k => decide (k < n) && p k) = [] := by
    rw [List.filter_eq_nil_iff]
    intro k hk
    obtain ⟨j, _, rfl⟩ := List.mem_map.mp hk
    simp
    omega
  rw [z1, List.map_nil, List.append_nil]
  congr 1
  apply List.filter_congr
  intro k hk
  simp [List.mem_range.mp hk]
theorem x_row (kind copy many number : Int) (c0 : 0 ≤ copy) (m1 : 1 ≤ many) (m6 : many ≤ 6) (G : List Cell) : ∃ xs : List Int, m__law_row [.int kind, .int copy, .int many, .int number] G = some (.ok (.own (.lst (xs.map W.int))), G) ∧ canon xs = xs := by
  unfold m__law_row
  rw [fnM_o]
  have h1 : 1 ≤ sz := by decide
  have h2 : 2 ≤ sz := by decide
  have c8 : CDivW number 8 := by unfold CDivW; constructor <;> decide
  have hfin : ∀ (ms : List Int) (v5 : SV), lcL [6] (tgN 6) (mB (mBin (fIn false) (mName 6) (mName 4))) (mName 6) ⟨rngW 0 8, none⟩ (rngW 0 8) [] ⟨[.val (.int kind), .val (.int copy), .val (.int many), .val (.int number), .own (.lst (ms.map W.int)), v5, .non], G⟩ =
      some (.ok (.own (.lst ((canon ms).map W.int))), ⟨[.val (.int kind), .val (.int copy), .val (.int many), .val (.int number), .own (.lst (ms.map W.int)), v5, .non], G⟩) := by
    intro ms v5
    rw [rng_map, lc_pure (by exact trivial) (fun (k : Nat) => decide ((0 : Int) + (k : Int) ∈ ms)) (fun (k : Nat) => W.int ((0 : Int) + (k : Int)))]
    · rw [canon_e]; simp
    · intro k _
      refine ⟨⟨[.val (.int kind), .val (.int copy), .val (.int many), .val (.int number), .own (.lst (ms.map W.int)), v5, .val (.int ((0 : Int) + (k : Int)))], G⟩, ?_, ?_, ?_⟩
      · simp [fIn_lI]
      · intro _
        exact ⟨⟨[.val (.int kind), .val (.int copy), .val (.int many), .val (.int number), .own (.lst (ms.map W.int)), v5, .val (.int ((0 : Int) + (k : Int)))], G⟩, by simp, by simp⟩
      · intro _; simp
    · simp [sz]
  have hbits : ∀ (n : Nat), n ≤ 8 → lcL [6] (tgN 6) (mB (mBin fEqD (mBin fMod (mCB fInt1 (mCons (mBin fShr (mName 3) (mName 6)) mNil)) (mC (.int 2))) (mC (.int 1)))) (mName 6) ⟨rngW 0 n, none⟩ (rngW 0 n) [] ⟨[.val (.int kind), .val (.int copy), .val (.int many), .val (.int number), .non, .val (.int n), .non], G⟩ =
      some (.ok (.own (.lst ((((List.range n).filter fun (k : Nat) => decide (number / 2 ^ k % 2 = 1)).map fun (k : Nat) => (k : Int)).map W.int))), ⟨[.val (.int kind), .val (.int copy), .val (.int many), .val (.int number), .non, .val (.int n), .non], G⟩) := by
    intro n hn
    rw [rng_map, lc_pure (by exact trivial) (fun (k : Nat) => decide (number / 2 ^ k % 2 = 1)) (fun (k : Nat) => W.int ((0 : Int) + (k : Int)))]
    · simp
    · intro k _
      refine ⟨⟨[.val (.int kind), .val (.int copy), .val (.int many), .val (.int number), .non, .val (.int n), .val (.int ((0 : Int) + (k : Int)))], G⟩, ?_, ?_, ?_⟩
      · simp [fEqD_i]
      · intro _
        exact ⟨⟨[.val (.int kind), .val (.int copy), .val (.int many), .val (.int number), .non, .val (.int n), .val (.int ((0 : Int) + (k : Int)))], G⟩, by simp, by simp⟩
      · intro _; simp
    · have : (8 : Nat) ≤ sz := by decide
      simp; omega
  have b8 := hbits 8 (by omega)
  have b3 := hbits 3 (by omega)
  by_cases k0 : kind = 0
  · subst k0
    refine ⟨_, ?_, canon_filter (n := 8) (by omega) fun (k : Nat) => decide (number / 2 ^ k % 2 = 1)⟩
    simp at b8
    simp [b__law_row, fEqD_i, b8]
  by_cases k5 : kind = 5
  · subst k5
    refine ⟨_, ?_, canon_filter (n := 3) (by omega) fun (k : Nat) => decide (number / 2 ^ k % 2 = 1)⟩
    simp at b3
    simp [b__law_row, fEqD_i, b3]
  suffices h : ∃ ms : List Int, outF (b__law_row ⟨[.val (.int kind), .val (.int copy), .val (.int many), .val (.int number), .non, .non, .non], G⟩) = some (.ok (.own (.lst ((canon ms).map W.int))), G) by
    obtain ⟨ms, h⟩ := h
    exact ⟨canon ms, h, canon_idem ms⟩
  have ml : ∀ (ms : List Int) (q : List W) (k : Int), ms.length ≤ 8 → q = ms.map W.int → fAdd (.lst q) (.lst [.int k]) = some (.newl ((ms ++ [k]).map W.int)) := fun ms q k hl hq => by
    subst hq
    rw [fAdd_ll (by show _ ≤ 16777216; simp; omega)]
    simp
  have g : ∀ (ms : List Int), ms.length ≤ 8 → ∃ ms2 : List Int, (if kind = 3 ∨ number / 8 % 4 = 0 then fAdd (.lst (ms.map W.int)) (.lst [.int (number % 8)]) else some (.newl (ms.map W.int))) = some (.newl (ms2.map W.int)) := fun ms hl => by
    split
    · exact ⟨_, ml ms _ _ hl rfl⟩
    · exact ⟨ms, rfl⟩
  have go : ∀ (ms : List Int) (v5 : SV), ms.length ≤ 8 → ∃ ms2 : List Int, outF ((mSeq (mIf (mOr (mB (mBin fEqD (mName 0) (mC (.int 3)))) (mB (mBin fEqD (mBin fMod (mCB fInt1 (mCons (mBin fDiv (mName 3) (mC (.int 8))) mNil)) (mC (.int 4))) (mC (.int 0))))) (mAsg 4 (mBin fAdd (mName 4) (mLst (mCons (mBin fMod (mCB fInt1 (mCons (mName 3) mNil)) (mC (.int 8))) mNil)))) mNext) (mRet (mLc [6] (mRng1 (mCons (mC (.int 8)) mNil)) (tgN 6) (mB (mBin (fIn false) (mName 6) (mName 4))) (mName 6)))) ⟨[.val (.int kind), .val (.int copy), .val (.int many), .val (.int number), .own (.lst (ms.map W.int)), v5, .non], G⟩) = some (.ok (.own (.lst ((canon ms2).map W.int))), G) := by
    intro ms v5 hl
    have hm := ml ms _ (number % 8) hl rfl
    by_cases k3 : kind = 3
    · refine ⟨ms ++ [number % 8], ?_⟩
      have hf := hfin (ms ++ [number % 8]) v5
      generalize ms ++ [number % 8] = ms3 at hm hf
      simp [fEqD_i, k3, h1, hm]
      rw [← k3, hf]
      simp
    · by_cases k4 : number / 8 % 4 = 0
      · refine ⟨ms ++ [number % 8], ?_⟩
        have hf := hfin (ms ++ [number % 8]) v5
        generalize ms ++ [number % 8] = ms3 at hm hf
        simp [fEqD_i, k3, k4, c8, h1, hm, hf]
      · exact ⟨ms, by simp [fEqD_i, k3, k4, c8, h1, hfin]⟩
  by_cases k1 : kind = 1
  · obtain ⟨ms2, h⟩ := go [copy, copy + 1] .non (by simp)
    refine ⟨ms2, ?_⟩
    rw [← h]
    simp [b__law_row, fEqD_i, k1, c8, h1, h2]
  by_cases k2 : kind = 2
  · by_cases q : copy = 0
    · have hr : Rl 0 (many - 1) := rl_le (by omega) (by omega) (by omega) (by omega)
      obtain ⟨ms2, h⟩ := go ((List.range (many - 1).toNat).map fun (k : Nat) => (0 : Int) + (k : Int)) .non (by simp; omega)
      refine ⟨ms2, ?_⟩
      rw [← h]
      have e : rngW 0 (many - 1).toNat = ((List.range (many - 1).toNat).map fun (k : Nat) => (0 : Int) + (k : Int)).map W.int := by rw [List.map_map]; rfl
      rw [← e]
      simp [b__law_row, fEqD_i, k2, c8, h1, h2, q, hr]
    · obtain ⟨ms2, h⟩ := go [copy - 1] .non (by simp)
      refine ⟨ms2, ?_⟩
      rw [← h]
      simp [b__law_row, fEqD_i, k2, c8, h1, h2, q]
  by_cases k4 : kind = 4
  · have hm : (0 : Int) < many := by omega
    obtain ⟨ms2, h⟩ := go [copy, (copy + 1) % many] .non (by simp)
    refine ⟨ms2, ?_⟩
    rw [← h]
    simp [b__law_row, fEqD_i, k4, c8, h1, h2, hm]
  · obtain ⟨ms2, h⟩ := go [number / 8 % 8] .non (by simp)
    refine ⟨ms2, ?_⟩
    rw [← h]
    simp [b__law_row, fEqD_i, k0, k1, k2, k4, k5, c8, h1, h2]
end Z

set_option linter.all false
set_option maxRecDepth 100000
namespace Z
open PySem PySem.Spec PyProof.Rows L2
def r256 : List Int := List.replicate 6 256
def lims8 (k : Int) : List Int := [6, k] ++ r256
theorem lims256 : fMul (.lst [.int 256]) (.int 6) = some (.newl (r256.map W.int)) := rfl
theorem fAdd_lims {k : Int} : fAdd (.lst [.int 6, .int k]) (.lst (r256.map W.int)) = some (.newl ((lims8 k).map W.int)) := rfl
theorem x_rows (cell least top : Int) (l1 : 1 ≤ least) (lt : least ≤ top) (t6 : top ≤ 6) (G : List Cell) : ∃ rs : List (List Int), m__law_rows [.int cell, .int least, .int top] G = some (.ok (.own (.lst (rs.map lstI))), G) ∧ least ≤ rs.length ∧ rs.length ≤ top ∧ ∀ xs ∈ rs, canon xs = xs := by
  unfold m__law_rows
  rw [fnM_o]
  have h1 : 1 ≤ sz := by decide
  have h2 : 2 ≤ sz := by decide
  obtain ⟨xs, hx, hlen, hlim⟩ := x_numbers cell 1 (lims8 (1 + top - least)) (by
    intro l hl
    simp [lims8, r256] at hl
    rcases hl with rfl | rfl | rfl
    · decide
    · refine ⟨by omega, ?_⟩
      exact Nat.lt_of_le_of_lt (Nat.log2_le_self _) (by omega)
    · decide) (by simp [lims8, r256]) G
  have hlen8 : xs.length = 8 := by rw [hlen]; simp [lims8, r256]
  have a0 : atI (xs.map W.int) 0 = some (.int (xs[0]'(by omega))) := atI_mapI (k := 0) (by omega)
  have a1 : atI (xs.map W.int) 1 = some (.int (xs[1]'(by omega))) := atI_mapI (k := 1) (by omega)
  have b1 := hlim 1 _ (1 + top - least) (List.getElem?_eq_getElem (by omega)) rfl
  generalize xs[0]'(by omega) = kind at a0
  generalize xs[1]'(by omega) = more at a1 b1
  obtain ⟨n, hn⟩ := Int.eq_ofNat_of_zero_le (a := least + more) (by omega)
  have hR : Rk (n : Int) := rk_nat (by omega)
  simp [b__law_rows, h1, h2, lims256, fAdd_lims, hx, a1, hn, hR]
  generalize hF : lcL _ _ _ _ _ _ _ _ = F
  obtain ⟨acc, s', rfl, ⟨rs, rfl, e1, e2, rfl⟩, _⟩ := lc_at hF (fun i acc s => ∃ rs : List (List Int), acc = rs.map lstI ∧ rs.length = i ∧ (∀ xs ∈ rs, canon xs = xs) ∧ s = ⟨[.val (.int cell), .val (.int least), .val (.int top), .own (.lst (xs.map W.int)), .val (.int n), .non], G⟩) (fun _ _ _ _ => by trivial) ⟨[], rfl, rfl, by simp, rfl⟩ (by
      have : (1000 : Nat) ≤ sz := by decide
      simp [rngW]; omega) (by
    rintro i hi acc s ⟨rs, rfl, e1, e2, rfl⟩
    simp [rngW] at hi
    have ai : atI (xs.map W.int) (2 + (i : Int)) = some (.int (xs[2 + i]'(by omega))) := by
      have := atI_mapI (xs := xs) (k := 2 + i) (by omega)
      simpa using this
    obtain ⟨ys, hy, hc⟩ := x_row kind i n (xs[2 + i]'(by omega)) (by omega) (by omega) (by omega) G
    refine ⟨true, ⟨[.val (.int cell), .val (.int least), .val (.int top), .own (.lst (xs.map W.int)), .val (.int n), .val (.int i)], G⟩, by simp [rngW], fun _ => ⟨lstI ys, ⟨[.val (.int cell), .val (.int least), .val (.int top), .own (.lst (xs.map W.int)), .val (.int n), .val (.int i)], G⟩, ?_, rs ++ [ys], by simp, by simp [e1], ?_, by simp⟩, fun h => by cases h⟩
    · simp [a0, ai, hy]
      rfl
    · intro zs hz
      rcases List.mem_append.mp hz with hz | hz
      · exact e2 zs hz
      · simp at hz; subst hz; exact hc)
  simp [rngW] at e1
  simp
  exact ⟨rs, rfl, by omega, by omega, e2⟩
theorem canon_k8 {rs : List (List Int)} (h : ∀ xs ∈ rs, canon xs = xs) : ∀ xs ∈ rs, ∀ k ∈ xs, 0 ≤ k ∧ k < 8 := fun x hx k hk => by
  rw [← h x hx] at hk
  exact ⟨(canon_mem hk).1, (canon_mem hk).2.1⟩
theorem canon_map {rs : List (List Int)} (h : ∀ xs ∈ rs, canon xs = xs) : rs.map canon = rs := by
  rw [List.map_congr_left (fun xs hx => h xs hx), List.map_id']
theorem canon_len8 {rs : List (List Int)} (h : ∀ xs ∈ rs, canon xs = xs) : ∀ xs ∈ rs, xs.length ≤ 8 := fun x hx => by
  rw [← h x hx]; exact canon_len x
/-! masks -/
def nmask (f : Nat → Bool) : Nat := ((List.range 8).map fun k => if f k then 2 ^ k else 0).sum
theorem sum_filter (p : Nat → Bool) (g : Nat → Int) : ∀ l : List Nat, ((l.filter p).map g).sum = (l.map fun k => if p k then g k else 0).sum
  | [] => rfl
  | x :: l => by
    simp only [List.filter_cons, List.map_cons, List.sum_cons]
    cases p x with
    | true => simp [sum_filter p g l]
    | false => simp [sum_filter p g l]
theorem mask_nat {xs : List Int} (h : canon xs = xs) : mask xs = (nmask fun k => decide ((k : Int) ∈ xs) : Nat) := by
  have e : mask (canon xs) = (nmask fun k => decide ((k : Int) ∈ xs) : Nat) := by
    unfold mask canon nmask
    rw [List.map_map, sum_filter]
    have r8 : List.range 8 = [0, 1, 2, 3, 4, 5, 6, 7] := rfl
    rw [r8]
    simp only [List.map_cons, List.map_nil, List.sum_cons, List.sum_nil, Function.comp_apply, Int.toNat_natCast]
    have pw : ∀ b : Bool, ∀ n : Nat, (if b = true then (2 : Int) ^ n else 0) = ((if b = true then 2 ^ n else 0 : Nat) : Int) := fun b n => by cases b <;> simp
    simp only [pw]
    simp only [Int.natCast_add, Int.natCast_zero]
  rw [← e, h]
theorem nmask_bit8 : ∀ b0 b1 b2 b3 b4 b5 b6 b7 : Bool, ∀ j, j < 8 → ((if b0 then 1 else 0) + ((if b1 then 2 else 0) + ((if b2 then 4 else 0) + ((if b3 then 8 else 0) + ((if b4 then 16 else 0) + ((if b5 then 32 else 0) + ((if b6 then 64 else 0) + ((if b7 then 128 else 0) + 0)))))))).testBit j = [b0, b1, b2, b3, b4, b5, b6, b7].getD j false := by decide +kernel
theorem nmask_bit (f : Nat → Bool) (j : Nat) (h : j < 8) : (nmask f).testBit j = f j := by
  have := nmask_bit8 (f 0) (f 1) (f 2) (f 3) (f 4) (f 5) (f 6) (f 7) j h
  unfold nmask
  rw [show List.range 8 = [0, 1, 2, 3, 4, 5, 6, 7] from rfl]
  simp only [List.map_cons, List.map_nil, List.sum_cons, List.sum_nil]
  refine Eq.trans this ?_
  have : j = 0 ∨ j = 1 ∨ j = 2 ∨ j = 3 ∨ j = 4 ∨ j = 5 ∨ j = 6 ∨ j = 7 := by omega
  rcases this with rfl | rfl | rfl | rfl | rfl | rfl | rfl | rfl <;> rfl
theorem nmask_lt (f : Nat → Bool) : nmask f < 2 ^ 8 := by
  unfold nmask
  rw [show List.range 8 = [0, 1, 2, 3, 4, 5, 6, 7] from rfl]
  simp only [List.map_cons, List.map_nil, List.sum_cons, List.sum_nil]
  repeat' split
  all_goals decide
/-- two rows have a common key -/
def common (xs ys : List Int) : Bool := xs.any fun k => decide (k ∈ ys)
theorem common_iff {xs ys : List Int} : common xs ys = true ↔ ∃ k ∈ xs, k ∈ ys := by
  unfold common
  simp
theorem mask_and {xs ys : List Int} (hx : canon xs = xs) (hy : canon ys = ys) : ∃ r : Int, fBAnd (.int (mask xs)) (.int (mask ys)) = some (.imm (.int r)) ∧ (r = 0 ↔ common xs ys = false) := by
  refine ⟨Builtin.bitAnd (mask xs) (mask ys), rfl, ?_⟩
  rw [mask_nat hx, mask_nat hy]
  have e : ∀ a b : Nat, Builtin.bitAnd (a : Int) (b : Int) = ((a &&& b : Nat) : Int) := fun a b => by
    unfold Builtin.bitAnd
    have h1 : decide ((0 : Int) ≤ (a : Int)) = true := by simp
    have h2 : decide ((0 : Int) ≤ (b : Int)) = true := by simp
    rw [h1, h2]
    simp
  rw [e]
  generalize hf : (fun k : Nat => decide ((k : Int) ∈ xs)) = f
  generalize hg : (fun k : Nat => decide ((k : Int) ∈ ys)) = g
  have hfk : ∀ k : Nat, f k = decide ((k : Int) ∈ xs) := fun k => by rw [← hf]
  have hgk : ∀ k : Nat, g k = decide ((k : Int) ∈ ys) := fun k => by rw [← hg]
  constructor
  · intro h0
    have h0' : nmask f &&& nmask g = 0 := by omega
    cases hc : common xs ys with
    | false => rfl
    | true =>
      obtain ⟨k, k1, k2⟩ := common_iff.mp hc
      have hk := k1
      rw [← hx] at hk
      obtain ⟨k0, k8, _⟩ := canon_mem hk
      have hb : (nmask f &&& nmask g).testBit k.toNat = true := by
        have : ((k.toNat : Nat) : Int) = k := Int.toNat_of_nonneg k0
        rw [Nat.testBit_and, nmask_bit f _ (by omega), nmask_bit g _ (by omega), hfk, hgk, this]
        simp [k1, k2]
      rw [h0'] at hb
      simp at hb
  · intro hc
    have : nmask f &&& nmask g = 0 := by
      apply Nat.eq_of_testBit_eq
      intro j
      rw [Nat.testBit_and, Nat.zero_testBit]
      by_cases hj : j < 8
      · rw [nmask_bit f j hj, nmask_bit g j hj, hfk, hgk]
        by_cases h1 : (j : Int) ∈ xs
        · by_cases h2 : (j : Int) ∈ ys
          · have : common xs ys = true := common_iff.mpr ⟨_, h1, h2⟩
            rw [hc] at this; cases this
          · simp [h2]
        · simp [h1]
      · rw [Nat.testBit_lt_two_pow (i := j) (Nat.lt_of_lt_of_le (nmask_lt f) (Nat.pow_le_pow_right (by omega) (by omega)))]
        rfl
    rw [this]; rfl
/-! lines -/
def lineB (rs : List (List Int)) (s t : Nat) : Bool := decide (s ≠ t) && common (rs.getD s []) (rs.getD t [])
def linesFrom (rs : List (List Int)) (s : Nat) : List (List Int) := ((List.range rs.length).filter fun t => lineB rs s t).map fun (t : Nat) => [(s : Int), (t : Int)]
def linesOf (rs : List (List Int)) : List (List Int) := (List.range rs.length).flatMap (linesFrom rs)
theorem lines_len (rs : List (List Int)) : (linesOf rs).length ≤ rs.length * rs.length := by
  unfold linesOf
  rw [List.length_flatMap]
  have : ∀ l : List Nat, (l.map fun s => (linesFrom rs s).length).sum ≤ l.length * rs.length := by
    intro l
    induction l with
    | nil => simp
    | cons x l ih =>
      have : (linesFrom rs x).length ≤ rs.length := by
        unfold linesFrom
        rw [List.length_map]
        exact Nat.le_trans (List.length_filter_le _ _) (by simp)
      simp only [List.map_cons, List.sum_cons, List.length_cons]
      rw [Nat.succ_mul]
      omega
  have h := this (List.range rs.length)
  simpa using h
theorem lines_two {rs : List (List Int)} : ∀ xs ∈ linesOf rs, xs.length = 2 := by
  intro xs hx
  unfold linesOf linesFrom at hx
  simp only [List.mem_flatMap, List.mem_map] at hx
  obtain ⟨_, _, _, _, rfl⟩ := hx
  rfl
end Z

set_option linter.all false
set_option maxRecDepth 100000
namespace Z
open PySem PySem.Spec PyProof.Rows L2
def sharedOf (xs ys : List Int) : List Int := xs.filter fun k => decide (k ∈ ys)
theorem shared_nil {xs ys : List Int} : sharedOf xs ys = [] ↔ common xs ys = false := by
  unfold sharedOf common
  rw [List.filter_eq_nil_iff, List.any_eq_false]
theorem shared_len (xs ys : List Int) : (sharedOf xs ys).length ≤ xs.length := List.length_filter_le _ _
/-- how a row is written -/
structure RowE (e : List Int → W) : Prop where
  walk : ∀ s xs, walkOf s (e xs) = some ⟨xs.map W.int, none⟩
  inn : ∀ neg k xs, fIn neg (.int k) (e xs) = some (.imm (.bl (decide (k ∈ xs) != neg)))
  look : ∀ r G xs, look (.val (e xs)) ⟨r, G⟩ = some (.ok (e xs), ⟨r, G⟩)
  tup : ∀ xs, fTuple [e xs] = some (.imm (tupI xs)) ∨ fTuple [e xs] = some (.newt (xs.map W.int))
  lst : ∀ xs, fList [e xs] = some (.newl (xs.map W.int))
theorem rowE_lst : RowE lstI := ⟨fun _ _ => rfl, fun neg k xs => fIn_lI neg k xs, fun _ _ _ => rfl, fun xs => .inr rfl, fun _ => rfl⟩
theorem rowE_tup : RowE tupI := ⟨fun _ _ => rfl, fun neg k xs => fIn_tupI neg k xs, fun _ _ _ => rfl, fun xs => .inl rfl, fun _ => rfl⟩
theorem x_law_linesR {e : List Int → W} (he : RowE e) (rs : List (List Int)) (hl : rs.length ≤ 1000) (h8 : ∀ xs ∈ rs, xs.length ≤ 8) (G : List Cell) {R : W} (hR0 : ∀ r, look (.val R) ⟨r, G⟩ = some (.ok (.lst (rs.map e)), ⟨r, G⟩)) : m__law_lines [R] G = some (.ok (.own (.lst ((linesOf rs).map tupI))), G) := by
  unfold m__law_lines
  rw [fnM_o]
  have hR : Rk (rs.length : Int) := rk_nat (by omega)
  have z2 : 2 ≤ sz := by decide
  simp [b__law_lines, hR, hR0]
  generalize hF : forL _ _ _ _ = F
  obtain ⟨s', rfl, v2, v3, rfl⟩ := forL_at hF (fun i s => ∃ v2 v3, s = ⟨[.val R, .own (.lst (((List.range i).flatMap (linesFrom rs)).map tupI)), v2, v3, .non], G⟩) ⟨.non, .non, by simp⟩ (by
    rintro i hi s ⟨v2, v3, rfl⟩
    simp [rngW] at hi
    have hA : ((List.range i).flatMap (linesFrom rs)).length ≤ i * rs.length := by
      rw [List.length_flatMap]
      have : ∀ l : List Nat, (l.map fun s => (linesFrom rs s).length).sum ≤ l.length * rs.length := by
        intro l
        induction l with
        | nil => simp
        | cons x l ih =>
          have : (linesFrom rs x).length ≤ rs.length := by
            unfold linesFrom
            rw [List.length_map]
            exact Nat.le_trans (List.length_filter_le _ _) (by simp)
          simp only [List.map_cons, List.sum_cons, List.length_cons]
          rw [Nat.succ_mul]
          omega
      have h := this (List.range i)
      simpa using h
    have hA2 : i * rs.length ≤ 1000 * 1000 := Nat.mul_le_mul (by omega) hl
    have e1 : (List.range (i + 1)).flatMap (linesFrom rs) = (List.range i).flatMap (linesFrom rs) ++ linesFrom rs i := by
      rw [List.range_succ, List.flatMap_append]; simp
    rw [e1]
    generalize (List.range i).flatMap (linesFrom rs) = A at hA
    simp [rngW, hR, hR0]
    generalize hF2 : forL _ _ _ _ = F2
    obtain ⟨s', rfl, v3', rfl⟩ := forL_at hF2 (fun j s => ∃ v3, s = ⟨[.val R, .own (.lst ((A ++ ((List.range j).filter fun t => lineB rs i t).map fun (t : Nat) => [(i : Int), (t : Int)]).map tupI)), .val (.int i), v3, .non], G⟩) ⟨v3, by simp⟩ (by
      rintro j hj s ⟨v3, rfl⟩
      simp [rngW] at hj
      have ei : atI (rs.map e) (i : Int) = some (e rs[i]) := atI_nat (by simp [hi])
      have ej : atI (rs.map e) (j : Int) = some (e rs[j]) := atI_nat (by simp [hj])
      have e2 : ∀ k, fIn false (.int k) (e rs[j]) = some (.imm (.bl (decide (k ∈ rs[j]) != false))) := fun k => he.inn false k _
      have hB : ((List.range j).filter fun t => lineB rs i t).length ≤ j := Nat.le_trans (List.length_filter_le _ _) (by simp)
      have e3 : ((List.range (j + 1)).filter fun t => lineB rs i t) = ((List.range j).filter fun t => lineB rs i t) ++ (if lineB rs i j then [j] else []) := by
        rw [List.range_succ, List.filter_append]
        congr 1
        cases hz : lineB rs i j <;> simp [hz]
      rw [e3]
      generalize hB2 : ((List.range j).filter fun t => lineB rs i t) = B at hB
      generalize hC : A ++ (B.map fun (t : Nat) => [(i : Int), (t : Int)]) = C
      have hlC : C.length < sz := by rw [← hC]; show _ < 16777216; simp; omega
      have hlc : lcL [4] (tgN 4) (mB (mBin (fIn false) (mName 4) (mBin fIx (mName 0) (mName 3)))) (mName 4) ⟨rs[i].map W.int, none⟩ (rs[i].map W.int) [] ⟨[.val R, .own (.lst (C.map tupI)), .val (.int i), .val (.int j), .non], G⟩ =
          some (.ok (.own (.lst ((sharedOf rs[i] rs[j]).map W.int))), ⟨[.val R, .own (.lst (C.map tupI)), .val (.int i), .val (.int j), .non], G⟩) := by
        rw [lc_pure (by exact trivial) (fun k => decide (k ∈ rs[j])) W.int]
        · simp [sharedOf]
        · intro k _
          exact ⟨⟨[.val R, .own (.lst (C.map tupI)), .val (.int i), .val (.int j), .val (.int k)], G⟩, by simp [ej, he.look, e2, hR0], fun _ => ⟨⟨[.val R, .own (.lst (C.map tupI)), .val (.int i), .val (.int j), .val (.int k)], G⟩, by simp, by simp⟩, fun _ => by simp⟩
        · have := h8 _ (List.getElem_mem hi)
          show _ ≤ 16777216
          simp; omega
      have hne : fNeD (.lst ((sharedOf rs[i] rs[j]).map W.int)) (.lst []) = some (.imm (.bl (decide (sharedOf rs[i] rs[j] ≠ [])))) := fNeD_emb (emb_lst emb_int) (by decide) (sharedOf rs[i] rs[j]) []
      have hb : lineB rs i j = (decide (i ≠ j) && common rs[i] rs[j]) := by simp [lineB, hi, hj]
      have hlm : (C.map tupI).length < sz := by simpa using hlC
      by_cases hij : i = j
      · have hb' : lineB rs i j = false := by rw [hb]; simp [hij]
        refine ⟨⟨[.val R, .own (.lst (C.map tupI)), .val (.int i), .val (.int j), .non], G⟩, by simp [rngW, fNeD_i, hij], .val (.int j), ?_⟩
        rw [hb']
        simp only [Bool.false_eq_true, if_false, List.append_nil]
        rw [hC]
      · have hij' : ¬ (i : Int) = j := by omega
        cases hcm : common rs[i] rs[j] with
        | false =>
          have hb' : lineB rs i j = false := by rw [hb, hcm]; simp
          have hs := shared_nil.mpr hcm
          have hne0 : fNeD (.lst []) (.lst []) = some (.imm (.bl false)) := rfl
          refine ⟨⟨[.val R, .own (.lst (C.map tupI)), .val (.int i), .val (.int j), .non], G⟩, by simp [rngW, fNeD_i, hij', ei, hR0, he.walk, he.look, hlc, hne, hs, hne0], .val (.int j), ?_⟩
          rw [hb']
          simp only [Bool.false_eq_true, if_false, List.append_nil]
          rw [hC]
        | true =>
          have hb' : lineB rs i j = true := by rw [hb, hcm]; simp [hij]
          have hs : ¬ sharedOf rs[i] rs[j] = [] := fun z => by rw [shared_nil.mp z] at hcm; cases hcm
          refine ⟨⟨[.val R, .own (.lst (C.map tupI ++ [.tup [.int i, .int j]])), .val (.int i), .val (.int j), .non], G⟩, by simp [rngW, fNeD_i, hij', ei, hR0, he.walk, he.look, hlc, hne, hs, z2, fAppend, hlC], .val (.int j), ?_⟩
          rw [hb']
          simp only [if_true, List.map_append]
          rw [← hC]
          simp [tupI])
    refine ⟨_, rfl, .val (.int i), v3', ?_⟩
    simp [rngW, linesFrom])
  simp [rngW, linesOf]
theorem x_law_linesE {e : List Int → W} (he : RowE e) (rs : List (List Int)) (hl : rs.length ≤ 1000) (h8 : ∀ xs ∈ rs, xs.length ≤ 8) (G : List Cell) : m__law_lines [.lst (rs.map e)] G = some (.ok (.own (.lst ((linesOf rs).map tupI))), G) := x_law_linesR he rs hl h8 G fun _ => rfl
theorem x_law_lines (rs : List (List Int)) (hl : rs.length ≤ 1000) (h8 : ∀ xs ∈ rs, xs.length ≤ 8) (G : List Cell) : m__law_lines [.lst (rs.map lstI)] G = some (.ok (.own (.lst ((linesOf rs).map tupI))), G) := x_law_linesE rowE_lst rs hl h8 G
def keepersOf (rs : List (List Int)) (k : Int) : List Int := ((List.range rs.length).filter fun c => decide (k ∈ rs.getD c [])).map fun (c : Nat) => (c : Int)
theorem keepers_len (rs : List (List Int)) (k : Int) : (keepersOf rs k).length ≤ rs.length := by
  unfold keepersOf
  rw [List.length_map]
  exact Nat.le_trans (List.length_filter_le _ _) (by simp)
end Z

set_option linter.all false
set_option maxRecDepth 100000
set_option maxHeartbeats 1000000
namespace Z
open PySem PySem.Spec PyProof.Rows L2
/-! Books: counts as lists of three whole numbers. -/
def cube : List (List Int) := (List.range 6).flatMap fun (a : Nat) => (List.range 6).flatMap fun (b : Nat) => (List.range 6).map fun (c : Nat) => [(a : Int), (b : Int), (c : Int)]
def okT : List Int → Bool
  | [a, b, c] => decide (a ≠ b) && (decide (a ≠ c) && decide (b ≠ c))
  | _ => false
def every : List (List Int) := cube.filter okT
theorem cube_nodup : cube.Nodup := by decide +kernel
theorem every_nodup : every.Nodup := cube_nodup.filter _
theorem every_length : every.length = 120 := by decide +kernel
theorem every_mem {t : List Int} (h : t ∈ every) : ∃ a b c : Nat, t = [(a : Int), (b : Int), (c : Int)] ∧ a < 6 ∧ b < 6 ∧ c < 6 ∧ a ≠ b ∧ a ≠ c ∧ b ≠ c := by
  obtain ⟨h1, h2⟩ := List.mem_filter.mp h
  simp only [cube, List.mem_flatMap, List.mem_map, List.mem_range] at h1
  obtain ⟨a, ha, b, hb, c, hc, rfl⟩ := h1
  simp [okT] at h2
  exact ⟨a, b, c, rfl, ha, hb, hc, by omega, by omega, by omega⟩
theorem every_ne {t : List Int} (h : t ∈ every) : t ≠ [] := by
  obtain ⟨a, b, c, rfl, _⟩ := every_mem h
  simp
/-- the counts in ascending order -/
def asc (cs : List (List Int)) : List (List Int) := cube.filter fun t => decide (t ∈ cs)
theorem asc_nodup (cs : List (List Int)) : (asc cs).Nodup := cube_nodup.filter _
theorem asc_sub (p : List Int → Bool) : asc (every.filter p) = every.filter p := by
  unfold asc every
  rw [List.filter_filter]
  refine List.filter_congr fun t m => ?_
  rw [Bool.eq_iff_iff]
  simp [m, and_comm]
/-- the value of a book -/
def book (ts : List (List Int)) : W := .obj "Book" [("rows", .dF (rowsD ts))]
theorem book_fold {ts : List (List Int)} : W.obj "Book" [("rows", .dF (rowsD ts))] = book ts := rfl
section
variable {r : List SV} {G : List Cell} {s : S} {ts us : List (List Int)} {xs : List W}
@[simp] theorem lk_book {a : W} : List.lookup ("rows" : Str) [("rows", a)] = some a := rfl
@[simp] theorem look_book : look (.val (book ts)) ⟨r, G⟩ = some (.ok (book ts), ⟨r, G⟩) := rfl
@[simp] theorem deref_book : derefW s (book ts) = some (book ts) := rfl
@[simp] theorem ty_book : tyOfW (book ts) = some (.own "Book") := rfl
@[simp high] theorem chk1_book : chk1 "Book" (book ts :: xs) ⟨r, G⟩ = some (.ok (), ⟨r, G⟩) := by simp [book]
@[simp] theorem rows_book : fldS "Book" "rows" rdD (book ts) = if ts.length ≤ sz then some (ts.map tupI) else none := by
  simp [fldS, book]
  rw [rowsD_keys]
  rfl
end
theorem fIn_rowsT (neg : Bool) (ts : List (List Int)) {t : List Int} (h : t ≠ []) : fIn neg (tupI t) (.dF (rowsD ts)) = some (.imm (.bl (decide (t ∈ ts) != neg))) := fIn_rows neg ts h
end Z

set_option linter.all false
set_option maxRecDepth 100000
set_option maxHeartbeats 1000000
namespace Z
open PySem PySem.Spec PyProof.Rows L2
/-! The drawn counts of a law. -/
/-- an equation that simp leaves alone -/
def Is {α : Type} (a b : α) : Prop := a = b
theorem Is.eq {α : Type} {a b : α} (h : Is a b) : a = b := h
def tripC (n a b : Nat) : List (List Int) := ((List.range n).filter fun (c : Nat) => decide (a ≠ b) && (decide (a ≠ c) && decide (b ≠ c))).map fun (c : Nat) => [(a : Int), (b : Int), (c : Int)]
def tripB (n a : Nat) : List (List Int) := (List.range n).flatMap fun b => tripC n a b
def trip (n : Nat) : List (List Int) := (List.range n).flatMap fun a => tripB n a
theorem trip_six : trip 6 = every := by
  with_unfolding_all decide +kernel
theorem take_succ_range {α : Type} (f : Nat → List α) (i : Nat) : (List.range (i + 1)).flatMap f = (List.range i).flatMap f ++ f i := by
  rw [List.range_succ, List.flatMap_append]
  simp
theorem tripC_len (n a b : Nat) : (tripC n a b).length ≤ n := by
  unfold tripC
  rw [List.length_map]
  exact Nat.le_trans (List.length_filter_le _ _) (by simp)
theorem flat_len {α : Type} {f : Nat → List α} {c : Nat} (h : ∀ i, (f i).length ≤ c) : ∀ n, ((List.range n).flatMap f).length ≤ c * n
  | 0 => by simp
  | n + 1 => by
    rw [take_succ_range, List.length_append, Nat.mul_succ]
    have := flat_len h n
    have := h n
    omega
theorem x_triples (n : Nat) (hn : n ≤ 6) (G : List Cell) : m__law_triples [.int n] G = some (.ok (.own (.lst ((trip n).map tupI))), G) := by
  unfold m__law_triples
  rw [fnM_e]
  have rk : Rk (n : Int) := rk_nat (by omega)
  have h3 : 3 ≤ sz := by show 3 ≤ 16777216; omega
  have small : ∀ {k : Nat}, k ≤ 1000 → k < sz := fun h => by show _ < 16777216; omega
  simp [b__law_triples, rk]
  generalize hF : forL _ _ _ _ = F
  obtain ⟨s', rfl, f1, v2, v3, v4, rfl, hf1⟩ := forL_at hF (fun i s => ∃ f1 v2 v3 v4, s = ⟨[.val (.int n), .own (.lst (f1.map tupI)), v2, v3, v4], G⟩ ∧ Is f1 ((List.range i).flatMap fun a => tripB n a)) ⟨[], .non, .non, .non, rfl, by simp [Is]⟩ (by
    rintro i hi s ⟨f1, v2, v3, v4, rfl, hf1⟩
    have hi : i < n := by simpa [rngW] using hi
    have l1 : f1.length ≤ 36 * i := by
      rw [hf1.eq]
      exact flat_len (fun a => Nat.le_trans (flat_len (fun b => tripC_len n a b) n) (Nat.mul_le_mul hn hn)) i
    simp [rngW, rk]
    generalize hF2 : forL _ _ _ _ = F2
    obtain ⟨s', rfl, f2, v3, v4, rfl, hf2⟩ := forL_at hF2 (fun j s => ∃ f2 v3 v4, s = ⟨[.val (.int n), .own (.lst (f2.map tupI)), .val (.int i), v3, v4], G⟩ ∧ Is f2 (f1 ++ (List.range j).flatMap fun b => tripC n i b)) ⟨f1, v3, v4, rfl, by simp [Is]⟩ (by
      rintro j hj s ⟨f2, v3, v4, rfl, hf2⟩
      have hj : j < n := by simpa [rngW] using hj
      have l2 : f2.length ≤ 36 * i + 6 * j := by
        rw [hf2.eq, List.length_append]
        have := flat_len (f := fun b => tripC n i b) (fun b => Nat.le_trans (tripC_len n i b) hn) j
        omega
      simp [rngW, rk]
      generalize hF3 : forL _ _ _ _ = F3
      obtain ⟨s', rfl, f3, v4, rfl, hf3⟩ := forL_at hF3 (fun k s => ∃ f3 v4, s = ⟨[.val (.int n), .own (.lst (f3.map tupI)), .val (.int i), .val (.int j), v4], G⟩ ∧ Is f3 (f2 ++ ((List.range k).filter fun (c : Nat) => decide (i ≠ j) && (decide (i ≠ c) && decide (j ≠ c))).map fun (c : Nat) => [(i : Int), (j : Int), (c : Int)])) ⟨f2, v4, rfl, by simp [Is]⟩ (by
        rintro k hk s ⟨f3, v4, rfl, hf3⟩
        have hk : k < n := by simpa [rngW] using hk
        have l3 : f3.length ≤ 36 * i + 6 * j + k := by
          rw [hf3.eq, List.length_append, List.length_map]
          have := List.length_filter_le (fun (c : Nat) => decide (i ≠ j) && (decide (i ≠ c) && decide (j ≠ c))) (List.range k)
          rw [List.length_range] at this
          omega
        have lz : f3.length < sz := small (by omega)
        have nI : ∀ {x y : Nat}, ¬ x = y → ¬ (x : Int) = y := fun h => by omega
        by_cases c1 : i = j
        · subst c1
          exact ⟨⟨[.val (.int n), .own (.lst (f3.map tupI)), .val (.int i), .val (.int i), .val (.int k)], G⟩, by simp [rngW, fNeD_i], f3, _, rfl, by rw [hf3.eq, List.range_succ, List.filter_append]; simp [Is]⟩
        · by_cases c2 : i = k
          · subst c2
            exact ⟨⟨[.val (.int n), .own (.lst (f3.map tupI)), .val (.int i), .val (.int j), .val (.int i)], G⟩, by simp [rngW, fNeD_i, nI c1], f3, _, rfl, by rw [hf3.eq, List.range_succ, List.filter_append]; simp [Is]⟩
          · by_cases c3 : j = k
            · subst c3
              exact ⟨⟨[.val (.int n), .own (.lst (f3.map tupI)), .val (.int i), .val (.int j), .val (.int j)], G⟩, by simp [rngW, fNeD_i, nI c1], f3, _, rfl, by rw [hf3.eq, List.range_succ, List.filter_append]; simp [Is]⟩
            · exact ⟨⟨[.val (.int n), .own (.lst ((f3 ++ [[(i : Int), (j : Int), (k : Int)]]).map tupI)), .val (.int i), .val (.int j), .val (.int k)], G⟩, by simp [rngW, fNeD_i, nI c1, nI c2, nI c3, fAppend, lz, h3, tupI], f3 ++ [[(i : Int), (j : Int), (k : Int)]], _, rfl, by rw [hf3.eq, List.range_succ, List.filter_append]; simp [Is, c1, c2, c3]⟩)
      refine ⟨_, rfl, f3, ⟨_, _, rfl⟩, ?_⟩
      rw [hf3.eq, hf2.eq, take_succ_range, List.append_assoc]
      simp [tripC, Is])
    refine ⟨_, rfl, f2, ⟨_, _, _, rfl⟩, ?_⟩
    rw [hf2.eq, hf1.eq, take_succ_range]
    simp [tripB, Is])
  rw [hf1.eq]
  simp [trip, rngW]
theorem fAdd_lists {a b : List W} (h : a.length + b.length ≤ sz) : fAdd (.lst a) (.lst b) = some (.newl (a ++ b)) := by
  unfold fAdd orf
  rw [show fI (fun i j => i + j) (.lst a) (.lst b) = none from rfl]
  simp only []
  rw [show fAddS (.lst a) (.lst b) = none from rfl]
  simp only []
  rw [show fAddL (.lst a) (.lst b) = some (.newl (a ++ b)) from by unfold fAddL; simp [h]]
theorem repW_one (w : W) : ∀ n, repW [w] n = List.replicate n w
  | 0 => rfl
  | n + 1 => by
    show (List.replicate (n + 1) [w]).flatten = _
    rw [List.replicate_succ, List.flatten_cons, List.replicate_succ]
    exact congrArg (List.cons w) (repW_one w n)
theorem fRepL_lst (ws : List W) (k : Int) (h : -(2 ^ 63) ≤ k ∧ k < 2 ^ 63 ∧ ws.length * k.toNat ≤ sz) : fRepL (.lst ws) (.int k) = some (.newl (repW ws k.toNat)) := by
  rw [fRepL]
  exact if_pos h
theorem fMul_rep (ws : List W) (k : Int) : fMul (.lst ws) (.int k) = fRepL (.lst ws) (.int k) := rfl
theorem mul15 (w : W) : fMul (.lst [w]) (.int 15) = some (.newl (List.replicate 15 w)) := by
  rw [fMul_rep, fRepL_lst _ _ ⟨by decide, by decide, by show 1 * 15 ≤ 16777216; omega⟩]
  exact congrArg (fun z => some (OR.newl z)) (repW_one w 15)
theorem mul120 (w : W) : fMul (.lst [w]) (.int 120) = some (.newl (List.replicate 120 w)) := by
  rw [fMul_rep, fRepL_lst _ _ ⟨by decide, by decide, by show 1 * 120 ≤ 16777216; omega⟩]
  exact congrArg (fun z => some (OR.newl z)) (repW_one w 120)
noncomputable def cBody (last : Mo Fl) : Mo Fl := mSeq (mAsg 6 (mLst (mCons (mBin fMod (mCB fInt1 (mCons (mBin fIx (mName 3) (mC (.int 1))) mNil)) (mCB fLen (mCons (mName 2) mNil))) (mCons (mBin fMod (mCB fInt1 (mCons (mBin fIx (mName 3) (mC (.int 2))) mNil)) (mCB fLen (mCons (mName 2) mNil))) mNil)))) (mSeq (mAsg 7 (mBin fEqD (mBin fMod (mCB fInt1 (mCons (mBin fShr (mBin fIx (mName 3) (mBin fAdd (mC (.int 3)) (mBin fDiv (mName 5) (mC (.int 8))))) (mBin fMod (mCB fInt1 (mCons (mName 5) mNil)) (mC (.int 8)))) mNil)) (mC (.int 2))) (mC (.int 1)))) (mSeq (mIf (mOr (mB (mBin fEqD (mBin fIx (mName 3) (mC (.int 0))) (mC (.int 1)))) (mB (mBin fEqD (mBin fIx (mName 3) (mC (.int 0))) (mC (.int 2))))) (mAsg 7 (mBin fEqD (mBin fIx (mName 3) (mC (.int 0))) (mC (.int 1)))) mNext) (mSeq (mIf (mB (mBin fEqD (mBin fIx (mName 3) (mC (.int 0))) (mC (.int 3)))) (mAsg 7 (mBin fNeD (mName 5) (mBin fIx (mName 6) (mC (.int 0))))) mNext) (mSeq (mIf (mB (mBin fEqD (mBin fIx (mName 3) (mC (.int 0))) (mC (.int 4)))) (mAsg 7 (mBin (fIn true) (mName 5) (mName 6))) mNext) last))))
theorem x_counts (c : Int) (G : List Cell) : ∃ p : List Int → Bool, m__law_counts [.int c, .int 6] G = some (.ok (.own (.lst ((every.filter p).map tupI))), G) := by
  obtain ⟨xs, ex, hl, hb⟩ := x_numbers c 2 ([6, 120, 120] ++ List.replicate 15 256) (by decide +kernel) (by decide) G
  have tr : m__law_triples [.int 6] G = _ := x_triples 6 (by omega) G
  rw [trip_six] at tr
  have c15 : CMul 1 15 := by decide
  simp only [List.map_append, List.map_replicate, List.map_cons, List.map_nil] at ex
  have rk : Rk (every.length : Int) := by rw [every_length]; exact rk_nat (n := 120) (by omega)
  unfold m__law_counts
  rw [fnM_e]
  have zs : ∀ {k : Nat}, k ≤ 1000 → k ≤ sz := fun h => by show _ ≤ 16777216; omega
  have mul : fMul (.lst [.int 256]) (.int 15) = some (.newl (List.replicate 15 (.int 256))) := mul15 _
  have add : fAdd (.lst [.int 6, .int 120, .int 120]) (.lst (List.replicate 15 (.int 256))) = _ := fAdd_lists (by show 18 ≤ 16777216; omega)
  generalize hL : List.replicate 15 (W.int 256) = L at mul add ex
  simp only [List.cons_append, List.nil_append] at add ex
  simp [b__law_counts, tr, rk, zs, mul, add, ex]
  have len : xs.length = 18 := hl
  obtain ⟨n0, n1, n2, rest, rfl⟩ : ∃ n0 n1 n2 rest, xs = n0 :: n1 :: n2 :: rest := by
    match xs, len with
    | a :: b :: c :: r, _ => exact ⟨a, b, c, r, rfl⟩
  have len : rest.length = 15 := by simpa using len
  generalize hF : forL _ _ _ _ = F
  obtain ⟨s', rfl, p, f1, v5, v6, v7, rfl, hf1⟩ := forL_at hF (fun i s => ∃ (p : List Int → Bool) (f1 : List (List Int)) (v5 v6 v7 : SV), s = ⟨[.val (.int c), .val (.int 6), .own (.lst (every.map tupI)), .own (.lst ((n0 :: n1 :: n2 :: rest).map W.int)), .own (.lst (f1.map tupI)), v5, v6, v7], G⟩ ∧ Is f1 ((every.take i).filter p)) ⟨fun _ => true, [], .non, .non, .non, rfl, by simp [Is]⟩ (by
    rintro i hi s ⟨p, f1, v5, v6, v7, rfl, hf1⟩
    have hi0 : i < every.length := by simpa [rngW] using hi
    have hi' : i < 120 := by rw [← every_length]; exact hi0
    have hi : i < every.length := hi0
    have l8 : Nat.log2 8 < 9000 := by decide
    have hk : i / 8 < rest.length := by omega
    have ek : atI (.int n0 :: .int n1 :: .int n2 :: rest.map W.int) (3 + (i : Int) / 8) = some (.int rest[i / 8]) := by
      have : (3 + (i : Int) / 8) = ((i / 8 + 3 : Nat) : Int) := by omega
      rw [this]
      exact atI_nat (by simp [hk])
    have e0 : atI (.int n0 :: .int n1 :: .int n2 :: rest.map W.int) 0 = some (.int n0) := atI_nat (j := 0) rfl
    have e1 : atI (.int n0 :: .int n1 :: .int n2 :: rest.map W.int) 1 = some (.int n1) := atI_nat (j := 1) rfl
    have e2 : atI (.int n0 :: .int n1 :: .int n2 :: rest.map W.int) 2 = some (.int n2) := atI_nat (j := 2) rfl
    have o0 : atI [W.int (n1 % 120), W.int (n2 % 120)] 0 = some (.int (n1 % 120)) := atI_nat (j := 0) rfl
    have ev : atI (every.map tupI) (i : Int) = some (tupI every[i]) := atI_nat (by rw [List.getElem?_map, List.getElem?_eq_getElem hi]; rfl)
    have m8 : (0 : Int) ≤ (i : Int) % 8 := by omega
    have fin : fIn true (.int (i : Int)) (.lst [W.int (n1 % 120), W.int (n2 % 120)]) = some (.imm (.bl (decide ((i : Int) ∈ [n1 % 120, n2 % 120]) != true))) := fIn_lI true (i : Int) [n1 % 120, n2 % 120]
    have small : f1.length < sz := by
      rw [hf1.eq]
      refine Nat.lt_of_le_of_lt (Nat.le_trans (List.length_filter_le _ _) (List.length_take_le _ _)) ?_
      show i < 16777216
      omega
    have nx : every[i] ∉ every.take i := fun m => by
      have nd := every_nodup
      rw [← List.take_append_drop i every, List.nodup_append] at nd
      exact nd.2.2 _ m _ (by rw [List.drop_eq_getElem_cons hi]; exact List.mem_cons_self ..) rfl
    have step : ∀ b : Bool, (every.take (i + 1)).filter (fun t => if t = every[i] then b else p t) = f1 ++ (if b then [every[i]] else []) := fun b => by
      rw [List.take_succ_eq_append_getElem hi, List.filter_append, hf1.eq]
      congr 1
      · refine List.filter_congr fun t m => ?_
        have : t ≠ every[i] := fun z => nx (z ▸ m)
        rw [if_neg this]
      · rw [List.filter_cons, if_pos rfl]
        cases b <;> rfl
    -- what is kept
    have run : ∀ last : Mo Fl, ∃ (b : Bool) (v6' : SV), cBody last ⟨[.val (.int c), .val (.int 6), .own (.lst (every.map tupI)), .own (.lst (.int n0 :: .int n1 :: .int n2 :: rest.map W.int)), .own (.lst (f1.map tupI)), .val (.int i), v6, v7], G⟩ =
        last ⟨[.val (.int c), .val (.int 6), .own (.lst (every.map tupI)), .own (.lst (.int n0 :: .int n1 :: .int n2 :: rest.map W.int)), .own (.lst (f1.map tupI)), .val (.int i), v6', .val (.bl b)], G⟩ := fun last => by
      by_cases z1 : n0 = 1
      · subst z1
        exact ⟨true, .own (.lst [.int (n1 % 120), .int (n2 % 120)]), by simp [cBody, e0, e1, e2, ek, o0, every_length, zs, fEqD_i, CDivW, l8, m8]⟩
      · by_cases z2 : n0 = 2
        · subst z2
          exact ⟨false, .own (.lst [.int (n1 % 120), .int (n2 % 120)]), by simp [cBody, e0, e1, e2, ek, o0, every_length, zs, fEqD_i, CDivW, l8, m8]⟩
        · by_cases z3 : n0 = 3
          · subst z3
            exact ⟨decide ((i : Int) ≠ n1 % 120), .own (.lst [.int (n1 % 120), .int (n2 % 120)]), by simp [cBody, e0, e1, e2, ek, o0, every_length, zs, fEqD_i, fNeD_i, CDivW, l8, m8]⟩
          · by_cases z4 : n0 = 4
            · subst z4
              exact ⟨decide ((i : Int) ∈ [n1 % 120, n2 % 120]) != true, .own (.lst [.int (n1 % 120), .int (n2 % 120)]), by simp [cBody, e0, e1, e2, ek, o0, every_length, zs, fEqD_i, fin, CDivW, l8, m8]⟩
            · exact ⟨decide (rest[i / 8] / 2 ^ ((i : Int) % 8).toNat % 2 = 1), .own (.lst [.int (n1 % 120), .int (n2 % 120)]), by simp [cBody, e0, e1, e2, ek, o0, every_length, zs, fEqD_i, CDivW, l8, m8, z1, z2, z3, z4]⟩
    obtain ⟨b, v6', hrun⟩ := run (mIf (mTru (mName 7)) (mDrop (mMut .lst fAppend (mName 4) (mCons (mBin fIx (mName 2) (mName 5)) mNil))) mNext)
    refine ⟨⟨[.val (.int c), .val (.int 6), .own (.lst (every.map tupI)), .own (.lst ((n0 :: n1 :: n2 :: rest).map W.int)), .own (.lst ((f1 ++ (if b then [every[i]] else [])).map tupI)), .val (.int i), v6', .val (.bl b)], G⟩, ?_, fun t => if t = every[i] then b else p t, f1 ++ (if b then [every[i]] else []), _, _, _, rfl, (step b).symm⟩
    rw [show (rngW 0 every.length)[i] = W.int i from by simp [rngW]]
    show (bnd (tgN 5 (.int i)) fun _ => cBody _) _ = _
    have t5 : tgN 5 (.int i) ⟨[.val (.int c), .val (.int 6), .own (.lst (every.map tupI)), .own (.lst ((n0 :: n1 :: n2 :: rest).map W.int)), .own (.lst (f1.map tupI)), v5, v6, v7], G⟩ = some (.ok (), ⟨[.val (.int c), .val (.int 6), .own (.lst (every.map tupI)), .own (.lst ((n0 :: n1 :: n2 :: rest).map W.int)), .own (.lst (f1.map tupI)), .val (.int i), v6, v7], G⟩) := by simp
    unfold bnd
    rw [t5]
    refine hrun.trans ?_
    cases b with
    | true => simp [ev, fAppend, small, show truW (.bl true) = some true from rfl]
    | false => simp [show truW (.bl false) = some false from rfl])
  rw [hf1.eq]
  refine ⟨p, ?_⟩
  simp [rngW]
end Z

set_option linter.all false
set_option maxRecDepth 100000
set_option maxHeartbeats 1000000
namespace Z
open PySem PySem.Spec PyProof.Rows L2
/-! Books that lie as a value or as a shared cell. -/
def bkC (ts : List (List Int)) : Cell := .ins "Book" [("rows", .dF (rowsD ts))]
@[simp high] theorem bkC_toW {ts : List (List Int)} : (bkC ts).toW = book ts := rfl
def BkR (G : List Cell) (w : W) (ts : List (List Int)) : Prop := w = book ts ∨ ∃ n, w = .ref n ∧ G[n]? = some (bkC ts)
theorem BkR.val {G : List Cell} {ts : List (List Int)} : BkR G (book ts) ts := .inl rfl
theorem BkR.at {G : List Cell} {n : Nat} {ts : List (List Int)} (h : G[n]? = some (bkC ts)) : BkR G (.ref n) ts := .inr ⟨n, rfl, h⟩
section
variable {G : List Cell} {w u : W} {ts us : List (List Int)} {xs : List W}
theorem BkR.deref (h : BkR G w ts) (r : List SV) : derefW ⟨r, G⟩ w = some (book ts) := by
  rcases h with rfl | ⟨n, rfl, h⟩
  · rfl
  · show (G[n]?).map Cell.toW = _
    rw [h]
    rfl
theorem BkR.look (h : BkR G w ts) (r : List SV) : look (.val w) ⟨r, G⟩ = some (.ok (book ts), ⟨r, G⟩) := by
  show (derefW ⟨r, G⟩ w).map _ = _
  rw [h.deref]
  rfl
theorem BkR.chk1 (h : BkR G w ts) (r : List SV) : chk1 "Book" (w :: xs) ⟨r, G⟩ = some (.ok (), ⟨r, G⟩) := by
  rw [chk1_e, h.deref]
  rfl
theorem BkR.chkm (h : BkR G w ts) (r : List SV) (mn : Str) (hm : mn ≠ "rows") : chk "Book" mn w ⟨r, G⟩ = some (.ok (), ⟨r, G⟩) := by
  have lk : List.lookup mn [(("rows" : Str), W.dF (rowsD ts))] = none := by
    have e : (mn == ("rows" : Str)) = false := beq_false_of_ne hm
    simp [List.lookup, e]
  rw [chk_e, h.deref]
  show (if ("Book" : Str) = "Book" ∧ _ then _ else _) = _
  rw [if_pos ⟨rfl, lk⟩]
theorem BkR.own (h : BkR G w ts) (k : BkR G u us) (r : List SV) : chkO "Book" [.own "Book"] [w, u] ⟨r, G⟩ = some (.ok (), ⟨r, G⟩) := by
  rw [chkO_e, h.deref, k.deref]
  rfl
theorem BkR.push (h : BkR G w ts) (c : Cell) : BkR (G ++ [c]) w ts := by
  rcases h with rfl | ⟨n, rfl, h⟩
  · exact .inl rfl
  · exact .inr ⟨n, rfl, by rw [List.getElem?_append_left (get_lt h)]; exact h⟩
end
/-- a list of counts lies well -/
structure Cts (ts : List (List Int)) : Prop where
  sub : ∀ t ∈ ts, t ∈ every
  len : ts.length ≤ 1000
theorem Cts.ne {ts : List (List Int)} (h : Cts ts) : ∀ t ∈ ts, t ≠ [] := fun t m => every_ne (h.sub t m)
theorem Cts.sz {ts : List (List Int)} (h : Cts ts) : ts.length ≤ sz := by
  have := h.len
  show _ ≤ 16777216
  omega
theorem Cts.sz3 {ts : List (List Int)} (h : Cts ts) : ∀ t ∈ ts, t.length ≤ Z.sz := fun t m => by
  obtain ⟨a, b, c, rfl, _⟩ := every_mem (h.sub t m)
  show 3 ≤ 16777216
  omega
theorem cts_filter (p : List Int → Bool) : Cts (every.filter p) := ⟨fun t m => (List.mem_filter.mp m).1, by
  have := List.length_filter_le p every
  rw [every_length] at this
  omega⟩
theorem cts_every : Cts every := ⟨fun _ m => m, by rw [every_length]; omega⟩
theorem cts_nil : Cts [] := ⟨fun _ m => by simp at m, by simp⟩
theorem asc_of {l : List (List Int)} {p : List Int → Bool} (h : ∀ t, t ∈ l ↔ t ∈ every ∧ p t = true) : asc l = every.filter p := by
  unfold asc every
  rw [List.filter_filter]
  refine List.filter_congr fun t m => ?_
  rw [Bool.eq_iff_iff]
  simp only [decide_eq_true_eq, Bool.and_eq_true]
  rw [h t, every, List.mem_filter]
  constructor
  · rintro ⟨⟨_, a⟩, b⟩; exact ⟨b, a⟩
  · rintro ⟨a, b⟩; exact ⟨⟨m, b⟩, a⟩
theorem every_all : every.filter (fun _ => true) = every := List.filter_eq_self.mpr fun _ _ => rfl
theorem asc_cts (l : List (List Int)) (h : ∀ t ∈ l, t ∈ every) : Cts (asc l) := by
  have : asc l = every.filter fun t => decide (t ∈ l) := asc_of fun t => by
    simp only [decide_eq_true_eq]
    exact ⟨fun m => ⟨h t m, m⟩, fun m => m.2⟩
  rw [this]
  exact cts_filter _
/-- a list, a tuple or a shared list -/
def SeqR (G : List Cell) (R : W) (ws : List W) : Prop := R = .lst ws ∨ R = .tup ws ∨ ∃ m, R = .ref m ∧ G[m]? = some (.lst ws)
theorem SeqR.use {G : List Cell} {R : W} {ws : List W} (h : SeqR G R ws) : ∃ o, (∀ r, walkOf ⟨r, G⟩ R = some ⟨ws, o⟩) ∧ (∀ r, Wk.ok ⟨ws, o⟩ ⟨r, G⟩) := by
  rcases h with rfl | rfl | ⟨n, rfl, h⟩
  · exact ⟨none, fun _ => rfl, fun _ => trivial⟩
  · exact ⟨none, fun _ => rfl, fun _ => trivial⟩
  · exact ⟨some n, fun _ => by simp [h], fun _ => h⟩
theorem asc_bits {l : List (List Int)} {q : List Int → Bool} (h : ∀ t ∈ every, (decide (t ∈ l)) = q t) (s : ∀ t ∈ l, t ∈ every) : asc l = every.filter q := asc_of fun t => by
  constructor
  · intro m
    have e := s t m
    exact ⟨e, by rw [← h t e]; simpa using m⟩
  · rintro ⟨e, z⟩
    rw [← h t e] at z
    simpa using z
section
variable (p0 p1 : List Int → Bool)
theorem f_and : (every.filter p0).filter p1 = every.filter fun t => p0 t && p1 t := by
  rw [List.filter_filter]
  exact List.filter_congr fun t _ => by cases p0 t <;> cases p1 t <;> rfl
theorem dec_mem {t : List Int} (m : t ∈ every) : decide (t ∈ every.filter p0) = p0 t := by
  simp [List.mem_filter, m]
theorem flt_mem : ((every.filter p0).filter fun t => decide (t ∈ every.filter p1)) = every.filter fun t => p0 t && p1 t := by
  rw [← f_and]
  exact List.filter_congr fun t m => dec_mem p1 (List.mem_filter.mp m).1
theorem flt_not : ((every.filter p0).filter fun t => !decide (t ∈ every.filter p1)) = every.filter fun t => p0 t && !p1 t := by
  rw [← f_and p0 fun t => !p1 t]
  exact List.filter_congr fun t m => by rw [dec_mem p1 (List.mem_filter.mp m).1]
theorem asc_or : asc (every.filter p0 ++ every.filter p1) = every.filter fun t => p0 t || p1 t :=
  asc_bits (fun t m => by simp [List.mem_filter, m]) fun t m => (List.mem_append.mp m).elim (fun z => (List.mem_filter.mp z).1) fun z => (List.mem_filter.mp z).1
theorem asc_xor : asc ((every.filter fun t => p0 t && !p1 t) ++ every.filter fun t => p1 t && !p0 t) = every.filter fun t => p0 t != p1 t := by
  rw [asc_or]
  exact List.filter_congr fun t _ => by cases p0 t <;> cases p1 t <;> rfl
theorem fall_nil : every.filter (fun _ => false) = [] := List.filter_eq_nil_iff.mpr fun _ _ => by simp
end
section
variable {G : List Cell} {w u : W} {ts us : List (List Int)}
theorem at_new {G : List Cell} {c : Cell} : (G ++ [c])[G.length]? = some c := by simp
theorem putFW_rows {a b : W} : putFW ("rows" : Str) b [(("rows" : Str), a)] = [(("rows" : Str), b)] := rfl
theorem rowsD_keysT : (rowsD ts).map (fun p => keyW p.1) = ts.map tupI := rowsD_keys ts
theorem lc_rows {st : SV → S} {i : Nat} {tt : Mo Bool} {kk : Wk} (q : List Int → Bool) (ts : List (List Int)) (hz : ts.length ≤ Z.sz) (hk : kk.ok (st .non)) (ht : ∀ v, tgN i v (st .non) = some (.ok (), st (.val v))) (hw : ∀ v, wipeS [i] (st v) = st .non)
    (h1 : ∀ t ∈ ts, tt (st (.val (tupI t))) = some (.ok (q t), st (.val (tupI t)))) (he : ∀ v, (bnd (mName i) fun y => freeze (settle y)) (st (.val v)) = some (.ok v, st (.val v))) :
    lcL [i] (tgN i) tt (mName i) kk (ts.map tupI) [] (st .non) = some (.ok (.own (.lst ((ts.filter q).map tupI))), st .non) := by
  have key := lc_pure (s := st .non) (k := kk) (vs := [i]) (t := tgN i) (tt := tt) (me := mName i) (e := tupI) hk q tupI ts [] (fun t m => ⟨st (.val (tupI t)), by rw [bnd_at (ht _)]; exact h1 t m, fun _ => ⟨st (.val (tupI t)), he _, hw _⟩, fun _ => hw _⟩) (by simpa using hz)
  rw [List.nil_append] at key
  exact key
theorem flt_sub {ts : List (List Int)} (c : Cts ts) (q : List Int → Bool) : Cts (ts.filter q) := ⟨fun t m => c.sub t (List.mem_filter.mp m).1, Nat.le_trans (List.length_filter_le _ _) c.len⟩
theorem mem_every (p : List Int → Bool) (neg : Bool) {t : List Int} (m : t ∈ every) : fIn neg (tupI t) (.lst ((every.filter p).map tupI)) = some (.imm (.bl (p t != neg))) := by
  rw [fIn_lst emb_row (by decide)]
  simp [List.mem_filter, m]
theorem seq_at {a b : Mo Fl} {s s' : S} (h : a s = some (.ok .nx, s')) : mSeq a b s = b s' := bnd_at h
end
end Z

set_option linter.all false
set_option maxRecDepth 100000
set_option maxHeartbeats 1000000
namespace Z
open PySem PySem.Spec PyProof.Rows L2
/-! Lines asked by any two numbers; carried lines. -/
def layC (rs : List (List Int)) : Cell := .ins "Layout" [("rows", .lst (rs.map tupI)), ("masks", .lst (rs.map fun xs => W.int (mask xs)))]
@[simp high] theorem layC_toW {rs : List (List Int)} : (layC rs).toW = lay rs := rfl
def lineI (rs : List (List Int)) (s t : Int) : Bool := decide (0 ≤ s ∧ s < rs.length ∧ 0 ≤ t ∧ t < rs.length) && lineB rs s.toNat t.toNat
theorem mem_lines {rs : List (List Int)} {x : List Int} : x ∈ linesOf rs ↔ ∃ s t, x = [s, t] ∧ lineI rs s t = true := by
  unfold linesOf linesFrom lineI
  simp only [List.mem_flatMap, List.mem_map, List.mem_filter, List.mem_range, Bool.and_eq_true, decide_eq_true_eq]
  constructor
  · rintro ⟨s, hs, t, ⟨ht, hb⟩, rfl⟩
    exact ⟨s, t, rfl, ⟨by omega, by omega, by omega, by omega⟩, by simpa using hb⟩
  · rintro ⟨s, t, rfl, ⟨h1, h2, h3, h4⟩, hb⟩
    exact ⟨s.toNat, by omega, t.toNat, ⟨by omega, hb⟩, by rw [Int.toNat_of_nonneg h1, Int.toNat_of_nonneg h3]⟩
theorem mem_line {rs : List (List Int)} {s t : Int} : [s, t] ∈ linesOf rs ↔ lineI rs s t = true := by
  rw [mem_lines]
  constructor
  · rintro ⟨a, b, e, h⟩
    cases e
    exact h
  · exact fun h => ⟨s, t, rfl, h⟩
theorem line_ne {rs : List (List Int)} {s t : Int} (h : lineI rs s t = true) : s ≠ t := by
  unfold lineI lineB at h
  simp only [Bool.and_eq_true, decide_eq_true_eq] at h
  rintro rfl
  exact h.2.1 rfl
theorem line_rng {rs : List (List Int)} {s t : Int} (h : lineI rs s t = true) : 0 ≤ s ∧ s < rs.length ∧ 0 ≤ t ∧ t < rs.length := by
  unfold lineI at h
  simp only [Bool.and_eq_true, decide_eq_true_eq] at h
  exact h.1
def pairsN (n : Nat) : List (List Int) := (List.range n).flatMap fun (a : Nat) => (List.range n).map fun (b : Nat) => [(a : Int), (b : Int)]
theorem lines_pairs (rs : List (List Int)) : linesOf rs = (pairsN rs.length).filter fun l => lineI rs (l.getD 0 0) (l.getD 1 0) := by
  unfold linesOf linesFrom pairsN
  rw [List.filter_flatMap]
  unfold List.flatMap
  congr 1
  refine List.map_congr_left fun a ha => ?_
  have ha := List.mem_range.mp ha
  rw [List.filter_map]
  congr 1
  refine List.filter_congr fun b hb => ?_
  have hb := List.mem_range.mp hb
  show _ = lineI rs (a : Int) (b : Int)
  simp [lineI, ha, hb]
theorem pairs_nodup {n : Nat} (h : n ≤ 6) : (pairsN n).Nodup := by
  have : ∀ n ≤ 6, (pairsN n).Nodup := by decide +kernel
  exact this n h
theorem lines_nodup {rs : List (List Int)} (h : rs.length ≤ 6) : (linesOf rs).Nodup := by
  rw [lines_pairs]
  exact (pairs_nodup h).filter _
theorem lines_le {rs : List (List Int)} (h : rs.length ≤ 6) : (linesOf rs).length ≤ 36 := by
  have := lines_len rs
  have := Nat.mul_le_mul h h
  omega
/-- the one item of a list without repeats -/
theorem filter_one {α : Type} [DecidableEq α] {x : α} : ∀ {l : List α}, l.Nodup → x ∈ l → l.filter (fun y => decide (y = x)) = [x]
  | y :: l, nd, m => by
    obtain ⟨n1, n2⟩ := List.nodup_cons.mp nd
    rcases List.mem_cons.mp m with rfl | m
    · rw [List.filter_cons_of_pos (by simp)]
      congr 1
      exact List.filter_eq_nil_iff.mpr fun z hz => by
        have : z ≠ x := fun e => n1 (e ▸ hz)
        simpa using this
    · have : y ≠ x := fun e => n1 (e ▸ m)
      rw [List.filter_cons_of_neg (by simpa using this)]
      exact filter_one n2 m
/-- whether a line is carried: told by its sender, used by its taker -/
def carB (ts : List (List Int)) (s t : Int) (l : List Int) : Bool := (decide (l.getD 0 0 = s) || decide ([s, l.getD 0 0, l.getD 1 0] ∈ ts)) && (decide (l.getD 1 0 = t) || decide ([t, l.getD 0 0, l.getD 1 0] ∈ ts))
def carriedOf (rs ts : List (List Int)) (s t : Int) : List (List Int) := (linesOf rs).filter (carB ts s t)
theorem carried_len {rs ts : List (List Int)} {s t : Int} (h : rs.length ≤ 6) : (carriedOf rs ts s t).length ≤ 36 := Nat.le_trans (List.length_filter_le _ _) (lines_le h)
theorem carried_two {rs ts : List (List Int)} {s t : Int} : ∀ xs ∈ carriedOf rs ts s t, xs.length = 2 := fun xs m => lines_two xs (List.mem_filter.mp m).1
theorem carried_own {rs ts : List (List Int)} {s t : Int} (h : lineI rs s t = true) : [s, t] ∈ carriedOf rs ts s t := List.mem_filter.mpr ⟨mem_line.mpr h, by simp [carB]⟩
theorem carried_none {rs : List (List Int)} {s t : Int} (h6 : rs.length ≤ 6) (h : lineI rs s t = true) : carriedOf rs [] s t = [[s, t]] := by
  have e : carriedOf rs [] s t = (linesOf rs).filter fun l => decide (l = [s, t]) := by
    refine List.filter_congr fun l m => ?_
    obtain ⟨a, b, rfl, _⟩ := mem_lines.mp m
    rw [Bool.eq_iff_iff]
    simp [carB]
  rw [e]
  exact filter_one (lines_nodup h6) (mem_line.mpr h)
theorem take_filter {α : Type} {l : List α} {p : α → Bool} {i : Nat} (hi : i < l.length) : (l.take (i + 1)).filter p = (l.take i).filter p ++ (if p l[i] = true then [l[i]] else []) := by
  rw [List.take_succ_eq_append_getElem hi, List.filter_append]
  congr 1
  cases z : p l[i] <;> simp [z]
theorem valW_rowsT (ts : List (List Int)) (t : List Int) : (valW (rowsD ts) (kT t)).isSome = decide (t ∈ ts) := valW_rows ts t
theorem fIn_rowsDT (neg : Bool) (ts : List (List Int)) {t : List Int} (h : t ≠ []) : fIn neg (tupI t) (.dT (rowsD ts)) = some (.imm (.bl (decide (t ∈ ts) != neg))) := by
  have : fIn neg (tupI t) (.dT (rowsD ts)) = fInD neg (tupI t) (.dT (rowsD ts)) := by
    cases neg <;> rfl
  rw [this]
  show ((tkOf (.tup (t.map W.int))).map fun k => valW (rowsD ts) k).map (fun r => OR.imm (.bl (r.isSome != neg))) = _
  rw [tkOf_ints h]
  simp [valW_rows]
theorem fSet_rows (ts : List (List Int)) {t : List Int} (h : t ≠ []) (hz : ts.length < sz) : fSet (.dT (rowsD ts)) (tupI t) (.bl true) = some (.dT (rowsD (addT ts t))) := by
  show orf3 fSetL fSetD _ _ _ = _
  unfold orf3
  show (if (rowsD ts).length < sz then (tkOf (tupI t)).map fun k => Cell.dT (putW (rowsD ts) k (.bl true)) else none) = _
  rw [rowsD_length, if_pos hz, show tkOf (tupI t) = some (kT t) from tkOf_ints h]
  simp [putW_rows]
theorem x_known (cs : List (List Int)) (hne : ∀ t ∈ cs, t ≠ []) (nd : cs.Nodup) (hl : cs.length ≤ 1000) (G : List Cell) : m__law_known [.lst (cs.map tupI)] G = some (.ok (.own (.dT (rowsD cs))), G) := by
  unfold m__law_known
  rw [fnM_o]
  simp [b__law_known]
  generalize hF : forL _ _ _ _ = F
  obtain ⟨s', rfl, v2, rfl⟩ := forL_at hF (fun i st => ∃ v2, st = ⟨[.val (.lst (cs.map tupI)), .own (.dT (rowsD (cs.take i))), v2], G⟩) ⟨.non, by simp [rowsD]⟩ (by
    rintro i hi st ⟨v2, rfl⟩
    have hi : i < cs.length := by simpa using hi
    have hz : (cs.take i).length < sz := by
      have := List.length_take_le i cs
      show _ < 16777216
      omega
    have fs := fSet_rows (cs.take i) (hne _ (List.getElem_mem hi)) hz
    have ad : addT (cs.take i) cs[i] = cs.take (i + 1) := by
      rw [List.take_succ_eq_append_getElem hi]
      refine if_neg fun m => ?_
      have := nd
      rw [← List.take_append_drop i cs, List.nodup_append] at this
      exact this.2.2 _ m _ (by rw [List.drop_eq_getElem_cons hi]; exact List.mem_cons_self ..) rfl
    rw [ad] at fs
    exact ⟨⟨[.val (.lst (cs.map tupI)), .own (.dT (rowsD (cs.take (i + 1)))), .val (tupI cs[i])], G⟩, by simp [fs], _, rfl⟩)
  simp
theorem x_law_carried (rs ts : List (List Int)) (h6 : rs.length ≤ 6) (s t : Int) (G : List Cell) : m__law_carried [.lst ((linesOf rs).map tupI), .dT (rowsD ts), .int s, .int t] G = some (.ok (.own (.lst ((carriedOf rs ts s t).map tupI))), G) := by
  unfold m__law_carried
  rw [fnM_o]
  have z3 : 3 ≤ sz := by decide
  have hll := lines_le h6
  simp [b__law_carried]
  generalize hF : forL _ _ _ _ = F
  obtain ⟨s', rfl, v5, v6, rfl⟩ := forL_at hF (fun i st => ∃ v5 v6, st = ⟨[.val (.lst ((linesOf rs).map tupI)), .val (.dT (rowsD ts)), .val (.int s), .val (.int t), .own (.lst ((((linesOf rs).take i).filter (carB ts s t)).map tupI)), v5, v6], G⟩) ⟨.non, .non, by simp⟩ (by
    rintro i hi st ⟨v5, v6, rfl⟩
    have hi : i < (linesOf rs).length := by simpa using hi
    have hm := List.getElem_mem hi
    rw [take_filter hi]
    have lz : (((linesOf rs).take i).filter (carB ts s t)).length < sz := by
      have := List.length_filter_le (carB ts s t) ((linesOf rs).take i)
      have := List.length_take_le i (linesOf rs)
      show _ < 16777216
      omega
    have ew : (List.map tupI (linesOf rs))[i]'(by simpa using hi) = tupI (linesOf rs)[i] := by simp
    rw [ew]
    generalize hA : ((linesOf rs).take i).filter (carB ts s t) = A at lz
    generalize (linesOf rs)[i] = l at hm
    obtain ⟨a, b, rfl, _⟩ := mem_lines.mp hm
    have n1 : fIn false (.tup [.int s, .int a, .int b]) (.dT (rowsD ts)) = _ := fIn_rowsDT false ts (t := [s, a, b]) (by simp)
    have n2 : fIn false (.tup [.int t, .int a, .int b]) (.dT (rowsD ts)) = _ := fIn_rowsDT false ts (t := [t, a, b]) (by simp)
    have i0 : atI [W.int a, W.int b] 0 = some (.int a) := atI_nat (j := 0) rfl
    have i1 : atI [W.int a, W.int b] 1 = some (.int b) := atI_nat (j := 1) rfl
    have tb : ∀ x, truW (.bl x) = some x := fun _ => rfl
    have cb : carB ts s t [a, b] = ((decide (a = s) || decide ([s, a, b] ∈ ts)) && (decide (b = t) || decide ([t, a, b] ∈ ts))) := rfl
    refine ⟨⟨[.val (.lst ((linesOf rs).map tupI)), .val (.dT (rowsD ts)), .val (.int s), .val (.int t), .own (.lst ((A ++ if carB ts s t [a, b] = true then [[a, b]] else []).map tupI)), .val (tupI [a, b]), .val (.bl (decide (a = s) || decide ([s, a, b] ∈ ts)))], G⟩, ?_, _, _, rfl⟩
    rw [cb]
    by_cases e1 : a = s
    · by_cases e2 : b = t
      · subst e1; subst e2
        simp [tupI, fEqD_i, tb, fAppend, lz, i0, i1]
      · subst e1
        cases q2 : decide ([t, a, b] ∈ ts) <;> simp [tupI, fEqD_i, e2, z3, i0, i1, n2, q2, tb, fAppend, lz]
    · by_cases e2 : b = t
      · subst e2
        cases q1 : decide ([s, a, b] ∈ ts) <;> simp [tupI, fEqD_i, e1, z3, i0, i1, n1, q1, tb, fAppend, lz]
      · cases q1 : decide ([s, a, b] ∈ ts) <;> cases q2 : decide ([t, a, b] ∈ ts) <;> simp [tupI, fEqD_i, e1, e2, z3, i0, i1, n1, n2, q1, q2, tb, fAppend, lz])
  simp [carriedOf]
end Z

set_option linter.all false
set_option maxRecDepth 100000
set_option maxHeartbeats 1000000
namespace Z
open PySem PySem.Spec PyProof.Rows L2
/-! Letters as values; their numbers, texts and bytes. -/
def ctI (p : Nat × Nat × Nat) : List Int := [(p.1 : Int), (p.2.1 : Int), (p.2.2 : Int)]
def ctW (p : Nat × Nat × Nat) : W := tupI (ctI p)
def letW (s t k v : Nat) (cs : List (Nat × Nat × Nat)) : W := .slt "Letter" [.tup (cs.map ctW), .int (k : Int), .int (s : Int), .int (t : Int), .int (v : Int)]
def letT (s t k v : Nat) (cs : List (Nat × Nat × Nat)) : Str := (cs.map fun p => zT 2 p.2.2).foldl (· ++ ·) (numT s ++ numT t ++ numT k ++ zT 6 v)
/-- what a packed letter may hold -/
structure LetOk (s t k v : Nat) (cs : List (Nat × Nat × Nat)) : Prop where
  s : s < 10
  t : t < 10
  k : k < 10
  v : v < 1000000
  n : ∀ p ∈ cs, p.2.2 < 100
  l : cs.length ≤ 100
theorem small_log {n k : Nat} (h : n < 1000000) : (n : Int).natAbs.log2 < 1920 := by
  have : (n : Int).natAbs < 2 ^ 1920 := Nat.lt_of_lt_of_le (show (n : Int).natAbs < 2 ^ 20 by omega) (Nat.pow_le_pow_right (by omega) (by omega))
  by_cases z : (n : Int).natAbs = 0
  · rw [z]; decide
  · exact (Nat.log2_lt z).mpr this
theorem fFmt_num {n : Nat} (h : n < 1000000) : fFmt (.int (n : Int)) = some (.imm (.str (numT n))) := if_pos (small_log (k := 0) h)
theorem fStr_num {n : Nat} (h : n < 1000000) : fStr1 [.int (n : Int)] = some (.imm (.str (numT n))) := by
  show (if _ then _ else none) = _
  rw [if_pos (small_log (k := 0) h)]
  rfl
theorem fFmtZ_num {k n : Nat} (h : n < 1000000) : fFmtZ k (.int (n : Int)) = some (.imm (.str (zT k n))) := by
  rw [← spec_z]
  exact if_pos (show Mk6 _ from ⟨by omega, by omega⟩)
theorem fZfill_num {k n : Nat} (h : PadOk (k : Int) = true) : fZfill (numT n) (.int (k : Int)) = some (.imm (.str (zT k n))) := by
  show (if _ then _ else none) = _
  rw [if_pos h, zfill_z]
theorem fAdd_str {a b : Str} (h : (a ++ b).length ≤ sz) : fAdd (.str a) (.str b) = some (.imm (.str (a ++ b))) := by
  have e : fAddS (.str a) (.str b) = some (.imm (.str (a ++ b))) := by
    unfold fAddS
    simp only []
    rw [if_pos (by rw [← len_app]; exact h)]
  unfold fAdd orf
  rw [show fI (fun i j => i + j) (.str a) (.str b) = none from rfl]
  simp only []
  rw [e]
theorem let_dig {s t k v : Nat} {cs : List (Nat × Nat × Nat)} : dig (letT s t k v cs) := dig_fold (((dig_num s).app (dig_num t)).app (dig_num k) |>.app (dig_z 6 v)) fun y m => by
  obtain ⟨p, _, rfl⟩ := List.mem_map.mp m
  exact dig_z 2 _
theorem strs_z : ∀ cs : List (Nat × Nat × Nat), strsOf (cs.map fun p => W.str (zT 2 p.2.2)) = some (cs.map fun p => zT 2 p.2.2)
  | [] => rfl
  | p :: cs => by
    show (strsOf _).map _ = _
    rw [strs_z cs]
    rfl
section
variable {s t k v : Nat} {cs : List (Nat × Nat × Nat)}
theorem LetOk.head (h : LetOk s t k v cs) : (numT s ++ numT t ++ numT k ++ zT 6 v).length ≤ 9 := by
  have h1 := num_len (k := 1) (by omega) h.s
  have h2 := num_len (k := 1) (by omega) h.t
  have h3 := num_len (k := 1) (by omega) h.k
  have h4 := zT_len (k := 6) (by omega) h.v
  rw [len_app, len_app, len_app]
  omega
theorem LetOk.sum (h : LetOk s t k v cs) : ((cs.map fun p => zT 2 p.2.2).map (·.length)).sum = 2 * cs.length := by
  have : ∀ l : List (Nat × Nat × Nat), (∀ p ∈ l, p.2.2 < 100) → ((l.map fun p => zT 2 p.2.2).map (·.length)).sum = 2 * l.length := by
    intro l
    induction l with
    | nil => intro _; rfl
    | cons p l ih =>
      intro hl
      simp only [List.map_cons, List.sum_cons, List.length_cons]
      rw [ih fun q m => hl q (List.mem_cons_of_mem _ m), zT_len (k := 2) (by omega) (hl p List.mem_cons_self)]
      omega
  exact this cs h.n
theorem LetOk.len (h : LetOk s t k v cs) : (letT s t k v cs).length ≤ 209 := by
  unfold letT
  rw [len_foldl, h.sum]
  have := h.head
  have := h.l
  omega
end
section
variable {s t k v : Nat} {cs : List (Nat × Nat × Nat)} {r : List SV} {G : List Cell}
@[simp] theorem look_let : look (.val (letW s t k v cs)) ⟨r, G⟩ = some (.ok (letW s t k v cs), ⟨r, G⟩) := rfl
@[simp] theorem freeze_let : freeze (.val (letW s t k v cs)) ⟨r, G⟩ = some (.ok (letW s t k v cs), ⟨r, G⟩) := rfl
@[simp] theorem sl_s : fSlot sl_sender (letW s t k v cs) = some (.imm (.int (s : Int))) := rfl
@[simp] theorem sl_t : fSlot sl_taker (letW s t k v cs) = some (.imm (.int (t : Int))) := rfl
@[simp] theorem sl_k : fSlot sl_key (letW s t k v cs) = some (.imm (.int (k : Int))) := rfl
@[simp] theorem sl_v : fSlot sl_value (letW s t k v cs) = some (.imm (.int (v : Int))) := rfl
@[simp] theorem sl_c : fSlot sl_counts (letW s t k v cs) = some (.imm (.tup (cs.map ctW))) := rfl
end
theorem pack_tail {a b : SV} {G : List Cell} (cs : List (Nat × Nat × Nat)) (hn : ∀ p ∈ cs, p.2.2 < 100) (hl : cs.length ≤ 100) : lcL [3, 4] (tgT 3 (tgsCons (tgN 3) (tgsCons (tgN 3) (tgsCons (tgN 4) tgsNil)))) mYes (mUn (fFmtZ 2) (mName 4)) ⟨cs.map ctW, none⟩ (cs.map ctW) [] ⟨[a, b, .non, .non, .non], G⟩ =
    some (.ok (.own (.lst (cs.map fun p => W.str (zT 2 p.2.2)))), ⟨[a, b, .non, .non, .non], G⟩) := by
  have key := lc_all (s := ⟨[a, b, .non, .non, .non], G⟩) (k := ⟨cs.map ctW, none⟩) (vs := [3, 4]) (t := tgT 3 (tgsCons (tgN 3) (tgsCons (tgN 3) (tgsCons (tgN 4) tgsNil)))) (tt := mYes) (me := mUn (fFmtZ 2) (mName 4)) (e := ctW) trivial (fun p : Nat × Nat × Nat => W.str (zT 2 p.2.2)) cs [] (fun p m => by
    have hp := hn p m
    have f := fFmtZ_num (k := 2) (n := p.2.2) (by omega)
    refine ⟨⟨[a, b, .non, .val (.int (p.2.1 : Int)), .val (.int (p.2.2 : Int))], G⟩, by simp [ctW, ctI, tupI], ⟨[a, b, .non, .val (.int (p.2.1 : Int)), .val (.int (p.2.2 : Int))], G⟩, by simp [f], by simp⟩) (by show 0 + cs.length ≤ 16777216; omega)
  rw [List.nil_append] at key
  exact key
theorem x_pack {s t k v : Nat} {cs : List (Nat × Nat × Nat)} (h : LetOk s t k v cs) (G : List Cell) : m_pack [letW s t k v cs] G = some (.ok (.val (.byt (W.KSb.enc (letT s t k v cs)))), G) := by
  unfold m_pack
  rw [fnM_o]
  have hs := h.s
  have ht := h.t
  have hk := h.k
  have hv := h.v
  have f1 := fFmt_num (n := s) (by omega)
  have f2 := fFmt_num (n := t) (by omega)
  have f3 := fFmt_num (n := k) (by omega)
  have f4 := fFmtZ_num (k := 6) hv
  have hh := h.head
  rw [len_app, len_app, len_app] at hh
  have l1 : (numT s).length ≤ sz := by show _ ≤ 16777216; omega
  have l2 : (numT s ++ numT t).length ≤ sz := by rw [len_app]; show _ ≤ 16777216; omega
  have l3 : (numT s ++ numT t ++ numT k).length ≤ sz := by rw [len_app, len_app]; show _ ≤ 16777216; omega
  have l4 : (numT s ++ numT t ++ numT k ++ zT 6 v).length ≤ sz := by rw [len_app, len_app, len_app]; show _ ≤ 16777216; omega
  have tl := pack_tail (a := .val (letW s t k v cs)) (b := .val (.str (numT s ++ numT t ++ numT k ++ zT 6 v))) (G := G) cs h.n h.l
  have hz := h.sum
  have hcl := h.l
  have jn : fJoin Str.empty (.lst (cs.map fun p => W.str (zT 2 p.2.2))) = some (.imm (.str (Txt.join Str.empty (cs.map fun p => zT 2 p.2.2)))) := by
    show (strsOf _).bind _ = _
    rw [strs_z]
    exact if_pos (show Jk _ by unfold Jk; rw [hz, List.length_map]; show _ + _ * 0 ≤ _; omega)
  have ga := glue_add (cs.map fun p => zT 2 p.2.2) (numT s ++ numT t ++ numT k ++ zT 6 v)
  have ll := h.len
  have ad : fAdd (.str (numT s ++ numT t ++ numT k ++ zT 6 v)) (.str (Txt.join Str.empty (cs.map fun p => zT 2 p.2.2))) = some (.imm (.str (letT s t k v cs))) := by
    rw [fAdd_str (by rw [ga]; show (letT s t k v cs).length ≤ 16777216; omega), ga]
    rfl
  have en : fEnc (letT s t k v cs) (.str "ascii") = some (.imm (.byt (W.KSb.enc (letT s t k v cs)))) := by
    show (if _ then _ else none) = _
    rw [if_pos ⟨rfl, let_dig.asc, by show _ ≤ 16777216; omega⟩]
  have e0 : ("" : Str) = Str.empty := rfl
  simp [b_pack, f1, f2, f3, f4, empty_app, l1, l2, l3, l4, tl, e0, jn, ad, en, outF]
end Z

set_option linter.all false
set_option maxRecDepth 100000
set_option maxHeartbeats 1000000
namespace Z
open PySem PySem.Spec PyProof.Rows L2
/-! What the laws ask of letters. -/
theorem fEqD_2 (a b c d : Int) : fEqD (.tup [.int a, .int b]) (.tup [.int c, .int d]) = some (.imm (.bl (decide (a = c ∧ b = d)))) := by
  have := fEqD_emb emb_row (by decide : 1 ≤ 64) [a, b] [c, d]
  show fEqD (tupI [a, b]) (tupI [c, d]) = _
  rw [this]
  simp
theorem ctW_map (cs : List (Nat × Nat × Nat)) : cs.map ctW = (cs.map ctI).map tupI := by rw [List.map_map]; rfl
def ownB (s t : Nat) (q : Nat × Nat × Nat) : Bool := decide ((q.1 : Int) = s ∧ (q.2.1 : Int) = t)
theorem x_number {s t k v n : Nat} {cs : List (Nat × Nat × Nat)} (hf : cs.filter (ownB s t) = [(s, t, n)]) (hl : cs.length ≤ 100) (G : List Cell) : m_Letter_number [letW s t k v cs] G = some (.ok (.val (.int (n : Int))), G) := by
  unfold m_Letter_number
  rw [fnM_o]
  have key := lc_pure (s := ⟨[.val (letW s t k v cs), .non, .non, .non, .non], G⟩) (k := ⟨cs.map ctW, none⟩) (vs := [2, 3, 4]) (t := tgT 3 (tgsCons (tgN 2) (tgsCons (tgN 3) (tgsCons (tgN 4) tgsNil))))
    (tt := mB (mBin fEqD (mTup (mCons (mName 2) (mCons (mName 3) mNil))) (mTup (mCons (mUn (fSlot sl_sender) (mName 0)) (mCons (mUn (fSlot sl_taker) (mName 0)) mNil))))) (me := mName 4) (e := ctW) trivial (ownB s t) (fun p : Nat × Nat × Nat => W.int (p.2.2 : Int)) cs [] (fun p m => by
      have e := fEqD_2 (p.1 : Int) (p.2.1 : Int) (s : Int) (t : Int)
      have z2 : 2 ≤ sz := by decide
      refine ⟨⟨[.val (letW s t k v cs), .non, .val (.int (p.1 : Int)), .val (.int (p.2.1 : Int)), .val (.int (p.2.2 : Int))], G⟩, by simp [ctW, ctI, tupI, e, ownB, z2], fun _ => ⟨⟨[.val (letW s t k v cs), .non, .val (.int (p.1 : Int)), .val (.int (p.2.1 : Int)), .val (.int (p.2.2 : Int))], G⟩, by simp, by simp⟩, fun _ => by simp⟩) (by show 0 + cs.length ≤ 16777216; omega)
  rw [List.nil_append, hf] at key
  simp only [List.map_cons, List.map_nil] at key
  have i0 : atI [W.int (n : Int)] 0 = some (.int (n : Int)) := atI_nat (j := 0) rfl
  simp [b_Letter_number, key, i0, outF]
theorem x_digits {s t k v : Nat} {cs : List (Nat × Nat × Nat)} (h : LetOk s t k v cs) (G : List Cell) : m__law_digits [.tup [.int (s : Int), .int (t : Int), .int (k : Int), .int (v : Int), .lst (cs.map ctW)]] G = some (.ok (.val (.str (letT s t k v cs))), G) := by
  unfold m__law_digits
  rw [fnM_o]
  have hs := h.s
  have ht := h.t
  have hk := h.k
  have hv := h.v
  have f1 := fStr_num (n := s) (by omega)
  have f2 := fStr_num (n := t) (by omega)
  have f3 := fStr_num (n := k) (by omega)
  have f4 := fStr_num (n := v) hv
  have z4 : fZfill (numT v) (.int 6) = some (.imm (.str (zT 6 v))) := fZfill_num (k := 6) (by decide +kernel)
  have hh := h.head
  rw [len_app, len_app, len_app] at hh
  have hcl := h.l
  have l2 : (numT s ++ numT t).length ≤ sz := by rw [len_app]; show _ ≤ 16777216; omega
  have l3 : (numT s ++ numT t ++ numT k).length ≤ sz := by rw [len_app, len_app]; show _ ≤ 16777216; omega
  have l4 : (numT s ++ numT t ++ numT k ++ zT 6 v).length ≤ sz := by rw [len_app, len_app, len_app]; show _ ≤ 16777216; omega
  have a2 := fAdd_str l2
  have a3 := fAdd_str l3
  have a4 := fAdd_str l4
  simp [b__law_digits, f1, f2, f3, f4, z4, a2, a3, a4]
  generalize hF : forL _ _ _ _ = F
  let tx (i : Nat) : Str := ((cs.take i).map fun p => zT 2 p.2.2).foldl (· ++ ·) (numT s ++ numT t ++ numT k ++ zT 6 v)
  have txl : ∀ i, (tx i).length ≤ 209 := fun i => by
    show (List.foldl _ _ _ : Str).length ≤ _
    have hi := LetOk.sum (s := s) (t := t) (k := k) (v := v) (cs := cs.take i) ⟨h.s, h.t, h.k, h.v, fun p m => h.n p (List.mem_of_mem_take m), by rw [List.length_take]; omega⟩
    rw [len_foldl, hi, len_app, len_app, len_app]
    have : (cs.take i).length ≤ cs.length := by rw [List.length_take]; omega
    omega
  obtain ⟨s', rfl, v2, rfl⟩ := forL_at hF (fun i st => ∃ v2, st = ⟨[.val (.tup [.int (s : Int), .int (t : Int), .int (k : Int), .int (v : Int), .lst (cs.map ctW)]), .val (.str (tx i)), v2, .val (.int (s : Int)), .val (.int (t : Int)), .val (.int (k : Int)), .val (.int (v : Int)), .val (.lst (cs.map ctW))], G⟩) ⟨.non, rfl⟩ (by
    rintro i hi st ⟨v2, rfl⟩
    have hi : i < cs.length := by simpa using hi
    have ew : (List.map ctW cs)[i]'(by simpa using hi) = ctW cs[i] := by simp
    rw [ew]
    have step : tx (i + 1) = tx i ++ zT 2 cs[i].2.2 := by
      show List.foldl _ _ _ = _
      rw [List.take_succ_eq_append_getElem hi, List.map_append, List.foldl_append]
      rfl
    have hn := h.n _ (List.getElem_mem hi)
    have hl := txl (i + 1)
    rw [step] at hl ⊢
    generalize tx i = a at hl
    generalize cs[i] = p at hn hl
    have f := fStr_num (n := p.2.2) (by omega)
    have z : fZfill (numT p.2.2) (.int 2) = some (.imm (.str (zT 2 p.2.2))) := fZfill_num (k := 2) (by decide +kernel)
    have ad := fAdd_str (a := a) (b := zT 2 p.2.2) (by show _ ≤ 16777216; omega)
    have i2 : atI [W.int (p.1 : Int), W.int (p.2.1 : Int), W.int (p.2.2 : Int)] 2 = some (.int (p.2.2 : Int)) := atI_nat (j := 2) rfl
    refine ⟨_, ?_, .val (ctW p), rfl⟩
    simp [ctW, ctI, tupI, i2, f, z, ad])
  have fin : tx (cs.map ctW).length = letT s t k v cs := by
    show List.foldl _ _ _ = _
    rw [List.length_map, List.take_length]
    rfl
  rw [fin]
  simp [outF]
theorem x_same_bytes {x : Str} (hd : dig x) (hl : x.length ≤ 1000) (G : List Cell) : m__law_same_bytes [.byt (W.KSb.enc x), .str x] G = some (.ok (.val (.bl true)), G) := by
  unfold m__law_same_bytes
  rw [fnM_o]
  have hz : (W.KSb.enc x).size = x.length := enc_size x
  have lz : x.length ≤ sz := by show _ ≤ 16777216; omega
  have hb := enc_byts hd
  have hc : chrsW x = (cod x).map fun c => W.str ⟨#[c]⟩ := rfl
  have cl : (cod x).length ≤ 1000 := by rw [cod_len]; exact hl
  have t1 : tabAt ti_str (.ty "bytes") = some false := by decide +kernel
  have t2 : tabAt ti_list (.ty "bytes") = some false := by decide +kernel
  have t3 : tabAt ti_tuple (.ty "bytes") = some false := by decide +kernel
  have ty : tyOfW (.byt (W.KSb.enc x)) = some (.ty "bytes") := rfl
  have len1 : fLen [.byt (W.KSb.enc x)] = some (.imm (.int (x.length : Nat))) := by
    show (if _ then _ else none) = _
    rw [hz, if_pos lz]
  have len2 : fLen [.str x] = some (.imm (.int (x.length : Nat))) := by
    show (if _ then _ else none) = _
    rw [if_pos lz]
  have ne := fNeD_same (x.length : Int)
  let st : S := ⟨[.val (.byt (W.KSb.enc x)), .val (.str x), .non, .non], G⟩
  have k1 := lc_all (s := st) (k := ⟨(cod x).map fun (c : Nat) => W.int (c : Int), none⟩) (vs := [2]) (t := tgN 2) (tt := mYes) (me := mName 2) (e := fun (c : Nat) => W.int (c : Int)) trivial (fun (c : Nat) => W.int (c : Int)) (cod x) [] (fun c m => ⟨⟨[.val (.byt (W.KSb.enc x)), .val (.str x), .val (.int (c : Int)), .non], G⟩, by simp [st], ⟨[.val (.byt (W.KSb.enc x)), .val (.str x), .val (.int (c : Int)), .non], G⟩, by simp, by simp [st]⟩) (by show 0 + _ ≤ 16777216; omega)
  have k2 := lc_all (s := st) (k := ⟨(cod x).map fun c => W.str ⟨#[c]⟩, none⟩) (vs := [3]) (t := tgN 3) (tt := mYes) (me := mCB fOrd (mCons (mName 3) mNil)) (e := fun c => W.str ⟨#[c]⟩) trivial (fun (c : Nat) => W.int (c : Int)) (cod x) [] (fun c m => ⟨⟨[.val (.byt (W.KSb.enc x)), .val (.str x), .non, .val (.str ⟨#[c]⟩)], G⟩, by simp [st], ⟨[.val (.byt (W.KSb.enc x)), .val (.str x), .non, .val (.str ⟨#[c]⟩)], G⟩, by
      have o : fOrd [.str ⟨#[c]⟩] = some (.imm (.int (c : Int))) := rfl
      simp [o], by simp [st]⟩) (by show 0 + _ ≤ 16777216; omega)
  rw [List.nil_append] at k1 k2
  have eq : fEqD (.lst ((cod x).map fun (c : Nat) => W.int (c : Int))) (.lst ((cod x).map fun (c : Nat) => W.int (c : Int))) = some (.imm (.bl true)) := by
    have h := fEqD_emb (emb_lst emb_int) (by decide : 1 ≤ 64) ((cod x).map fun (c : Nat) => (c : Int)) ((cod x).map fun (c : Nat) => (c : Int))
    rw [List.map_map, decide_eq_true rfl] at h
    exact h
  simp only [st] at k1 k2
  simp [b__law_same_bytes, ty, t1, t2, t3, len1, len2, ne, hb, hc, k1, k2, eq, outF]
theorem x_same_letter {s t k v n : Nat} {cs : List (Nat × Nat × Nat)} (hf : cs.filter (ownB s t) = [(s, t, n)]) (hl : cs.length ≤ 100) (G : List Cell) :
    m__law_same_letter [letW s t k v cs, .tup [.int (s : Int), .int (t : Int), .int (k : Int), .int (v : Int), .lst (cs.map ctW)]] G = some (.ok (.val (.bl true)), G) := by
  unfold m__law_same_letter
  rw [fnM_o]
  have z5 : 5 ≤ sz := by decide
  have nu := fun G => x_number (k := k) (v := v) hf hl G
  have ch : ∀ r, chkS "Letter" (letW s t k v cs) ⟨r, G⟩ = some (.ok (), ⟨r, G⟩) := fun r => rfl
  simp [b__law_same_letter, nu, ch, z5]
  generalize hF : forL _ _ _ _ = F
  obtain ⟨s', rfl, v2, rfl⟩ := forL_at hF (fun i st => ∃ v2, st = ⟨[.val (letW s t k v cs), .val (.tup [.int (s : Int), .int (t : Int), .int (k : Int), .int (v : Int), .lst (cs.map ctW)]), v2, .non, .val (.int (s : Int)), .val (.int (t : Int)), .val (.int (k : Int)), .val (.int (v : Int)), .val (.lst (cs.map ctW)), .non], G⟩) ⟨.non, rfl⟩ (by
    rintro i hi st ⟨v2, rfl⟩
    obtain ⟨z, hz⟩ : ∃ z : Int, [W.int (s : Int), W.int (t : Int), W.int (k : Int), W.int (v : Int), W.int (n : Int)][i] = W.int z := by
      match i, hi with
      | 0, _ => exact ⟨_, rfl⟩
      | 1, _ => exact ⟨_, rfl⟩
      | 2, _ => exact ⟨_, rfl⟩
      | 3, _ => exact ⟨_, rfl⟩
      | 4, _ => exact ⟨_, rfl⟩
    rw [hz]
    exact ⟨⟨[.val (letW s t k v cs), .val (.tup [.int (s : Int), .int (t : Int), .int (k : Int), .int (v : Int), .lst (cs.map ctW)]), .val (.int z), .non, .val (.int (s : Int)), .val (.int (t : Int)), .val (.int (k : Int)), .val (.int (v : Int)), .val (.lst (cs.map ctW)), .non], G⟩, by simp [x_is_int], _, rfl⟩)
  let st : S := ⟨[.val (letW s t k v cs), .val (.tup [.int (s : Int), .int (t : Int), .int (k : Int), .int (v : Int), .lst (cs.map ctW)]), v2, .non, .val (.int (s : Int)), .val (.int (t : Int)), .val (.int (k : Int)), .val (.int (v : Int)), .val (.lst (cs.map ctW)), .non], G⟩
  have key := lc_pure (s := st) (k := ⟨cs.map ctW, none⟩) (vs := [9]) (t := tgN 9)
    (tt := mAnd (mB (mBin fEqD (mBin fIx (mName 9) (mC (.int 0))) (mName 4))) (mB (mBin fEqD (mBin fIx (mName 9) (mC (.int 1))) (mName 5)))) (me := mBin fIx (mName 9) (mC (.int 2))) (e := ctW) trivial (ownB s t) (fun p : Nat × Nat × Nat => W.int (p.2.2 : Int)) cs [] (fun p m => by
      have i0 : atI [W.int (p.1 : Int), W.int (p.2.1 : Int), W.int (p.2.2 : Int)] 0 = some (.int (p.1 : Int)) := atI_nat (j := 0) rfl
      have i1 : atI [W.int (p.1 : Int), W.int (p.2.1 : Int), W.int (p.2.2 : Int)] 1 = some (.int (p.2.1 : Int)) := atI_nat (j := 1) rfl
      have i2 : atI [W.int (p.1 : Int), W.int (p.2.1 : Int), W.int (p.2.2 : Int)] 2 = some (.int (p.2.2 : Int)) := atI_nat (j := 2) rfl
      have hw : ctW p = .tup [.int (p.1 : Int), .int (p.2.1 : Int), .int (p.2.2 : Int)] := rfl
      refine ⟨⟨[.val (letW s t k v cs), .val (.tup [.int (s : Int), .int (t : Int), .int (k : Int), .int (v : Int), .lst (cs.map ctW)]), v2, .non, .val (.int (s : Int)), .val (.int (t : Int)), .val (.int (k : Int)), .val (.int (v : Int)), .val (.lst (cs.map ctW)), .val (ctW p)], G⟩, ?_, fun _ => ⟨⟨[.val (letW s t k v cs), .val (.tup [.int (s : Int), .int (t : Int), .int (k : Int), .int (v : Int), .lst (cs.map ctW)]), v2, .non, .val (.int (s : Int)), .val (.int (t : Int)), .val (.int (k : Int)), .val (.int (v : Int)), .val (.lst (cs.map ctW)), .val (ctW p)], G⟩, by simp [hw, i2], by simp [st]⟩, fun _ => by simp [st]⟩
      by_cases e1 : (p.1 : Int) = s
      · rw [e1] at i0 i1 hw
        simp [st, hw, i0, i1, fEqD_i, ownB, e1]
      · simp [st, hw, i0, i1, fEqD_i, ownB, e1]) (by show 0 + cs.length ≤ 16777216; omega)
  rw [List.nil_append, hf] at key
  simp only [List.map_cons, List.map_nil, st] at key
  have i0 : atI [W.int (n : Int)] 0 = some (.int (n : Int)) := atI_nat (j := 0) rfl
  have ne : fNeD (.lst [.int (s : Int), .int (t : Int), .int (k : Int), .int (v : Int), .int (n : Int)]) (.lst [.int (s : Int), .int (t : Int), .int (k : Int), .int (v : Int), .int (n : Int)]) = some (.imm (.bl false)) := by
    have h := fNeD_emb (emb_lst emb_int) (by decide : 1 ≤ 64) [(s : Int), (t : Int), (k : Int), (v : Int), (n : Int)] [(s : Int), (t : Int), (k : Int), (v : Int), (n : Int)]
    simpa using h
  have sm := x_same (cs.map ctI) (by rw [List.length_map]; omega) (fun xs hx => by
    obtain ⟨p, _, rfl⟩ := List.mem_map.mp hx
    show 3 ≤ sz
    decide) G
  rw [← ctW_map] at sm
  have tt : tabAt ti_tuple (.ty "tuple") = some true := by decide +kernel
  have ty : tyOfW (.tup (cs.map ctW)) = some (.ty "tuple") := rfl
  have fl : fList [.tup (cs.map ctW)] = some (.newl (cs.map ctW)) := rfl
  simp [x_is_int, key, i0, ne, nu, ch, z5, tt, ty, fl, sm, outF]
end Z

set_option linter.all false
set_option maxRecDepth 100000
set_option maxHeartbeats 2000000
namespace Z
open PySem PySem.Spec PyProof.Rows L2
/-! The letter that a law draws. -/
theorem pairs_cut (n : Nat) (h : n ≤ 6) : pairsN n = (pairsN 6).filter fun l => decide (l.getD 0 0 < (n : Int) ∧ l.getD 1 0 < (n : Int)) := by
  match n, h with
  | 0, _ => decide +kernel
  | 1, _ => decide +kernel
  | 2, _ => decide +kernel
  | 3, _ => decide +kernel
  | 4, _ => decide +kernel
  | 5, _ => decide +kernel
  | 6, _ => decide +kernel
/-- a line may be carried -/
def mayB (s t : Nat) (l : List Int) : Bool := decide (l.getD 0 0 ≠ l.getD 1 0) && ((decide (l.getD 0 0 = s) || (decide (l.getD 0 0 ≠ s) && decide (l.getD 1 0 ≠ s))) && (decide (l.getD 1 0 = t) || (decide (l.getD 0 0 ≠ t) && decide (l.getD 1 0 ≠ t))))
theorem may_21 : ∀ s ∈ List.range 6, ∀ t ∈ List.range 6, s ≠ t → ((pairsN 6).filter (mayB s t)).length ≤ 21 := by decide +kernel
theorem every_ne3 {a b c : Int} (h : [a, b, c] ∈ every) : a ≠ b ∧ a ≠ c ∧ b ≠ c := by
  obtain ⟨x, y, z, e, _, _, _, h1, h2, h3⟩ := every_mem h
  simp only [List.cons.injEq, and_true] at e
  obtain ⟨rfl, rfl, rfl⟩ := e
  exact ⟨by omega, by omega, by omega⟩
theorem carried_21 {rs ts : List (List Int)} {s t : Nat} (h6 : rs.length ≤ 6) (hts : Cts ts) (h : lineI rs s t = true) : (carriedOf rs ts s t).length ≤ 21 := by
  obtain ⟨_, r1, _, r2⟩ := line_rng h
  have ne := line_ne h
  unfold carriedOf
  rw [lines_pairs, pairs_cut _ h6, List.filter_filter, List.filter_filter]
  refine Nat.le_trans ?_ (may_21 s (List.mem_range.mpr (by omega)) t (List.mem_range.mpr (by omega)) (by omega))
  rw [← List.countP_eq_length_filter, ← List.countP_eq_length_filter]
  refine List.countP_mono_left fun l m z => ?_
  simp only [Bool.and_eq_true, decide_eq_true_eq] at z
  obtain ⟨⟨z1, z2⟩, z3⟩ := z
  have hne := line_ne z2
  unfold carB at z1
  unfold mayB
  simp only [Bool.and_eq_true, Bool.or_eq_true, decide_eq_true_eq] at z1 ⊢
  refine ⟨hne, z1.1.imp id fun q => ?_, z1.2.imp id fun q => ?_⟩
  · have := every_ne3 (hts.sub _ q)
    exact ⟨fun z => this.1 z.symm, fun z => this.2.1 z.symm⟩
  · have := every_ne3 (hts.sub _ q)
    exact ⟨fun z => this.1 z.symm, fun z => this.2.1 z.symm⟩
theorem mul21 (w : W) : fMul (.lst [w]) (.int 21) = some (.newl (List.replicate 21 w)) := by
  rw [fMul_rep, fRepL_lst _ _ ⟨by decide, by decide, by show 1 * 21 ≤ 16777216; omega⟩]
  exact congrArg (fun z => some (OR.newl z)) (repW_one w 21)
def prI (p : Nat × Nat × Nat) : List Int := [(p.1 : Int), (p.2.1 : Int)]
theorem own_one {s t : Nat} {cs : List (Nat × Nat × Nat)} (nd : (cs.map prI).Nodup) (m : [(s : Int), (t : Int)] ∈ cs.map prI) : ∃ n, cs.filter (ownB s t) = [(s, t, n)] ∧ (s, t, n) ∈ cs := by
  have e : (cs.filter (ownB s t)).map prI = [[(s : Int), (t : Int)]] := by
    have h := filter_one nd m
    rw [List.filter_map] at h
    rw [← h]
    congr 1
    refine List.filter_congr fun p _ => ?_
    show ownB s t p = decide ([(p.1 : Int), (p.2.1 : Int)] = [(s : Int), (t : Int)])
    unfold ownB
    simp
  match hf : cs.filter (ownB s t), e with
  | [p], e =>
    simp only [List.map_cons, List.map_nil, prI, List.cons.injEq, and_true] at e
    obtain ⟨a, b, n⟩ := p
    obtain ⟨e1, e2⟩ := e
    have e1 : (a : Int) = s := e1
    have e2 : (b : Int) = t := e2
    have e1 : a = s := by omega
    have e2 : b = t := by omega
    subst e1 e2
    exact ⟨n, rfl, (List.mem_filter.mp (hf ▸ List.mem_singleton_self (a, b, n) : (a, b, n) ∈ cs.filter (ownB a b))).1⟩
theorem x_law_letter {rs ts : List (List Int)} (hc : ∀ xs ∈ rs, canon xs = xs) (h6 : rs.length ≤ 6) (hts : Cts ts) (hne : linesOf rs ≠ []) (c : Int) (G : List Cell) {R : W} (hR : ∀ r, look (.val R) ⟨r, G⟩ = some (.ok (.lst (rs.map lstI)), ⟨r, G⟩)) :
    ∃ (s t k v n : Nat) (cs : List (Nat × Nat × Nat)), LetOk s t k v cs ∧ cs.filter (ownB s t) = [(s, t, n)] ∧ 1 ≤ n ∧ lineI rs s t = true ∧ (k : Int) ∈ sharedOf (rs.getD s []) (rs.getD t []) ∧ cs.map prI = carriedOf rs ts s t ∧
      m__law_letter [R, .dT (rowsD ts), .int c] G = some (.ok (.val (.tup [.int (s : Int), .int (t : Int), .int (k : Int), .int (v : Int), .lst (cs.map ctW)])), G) := by
  obtain ⟨xs, hx, hlen, hlim⟩ := x_numbers c 6 ([30, 8, 1000, 1000] ++ List.replicate 21 100) (by decide +kernel) (by decide) G
  have h8 := canon_len8 hc
  have ll := x_law_linesR rowE_lst rs (by omega) h8 G hR
  have hlin := lines_le h6
  have len : xs.length = 25 := hlen
  obtain ⟨n0, n1, n2, n3, rest, rfl⟩ : ∃ n0 n1 n2 n3 rest, xs = n0 :: n1 :: n2 :: n3 :: rest := by
    match xs, len with
    | a :: b :: c :: d :: r, _ => exact ⟨a, b, c, d, r, rfl⟩
  have len : rest.length = 21 := by simpa using len
  have b0 := hlim 0 n0 30 rfl rfl
  have b1 := hlim 1 n1 8 rfl rfl
  have b2 := hlim 2 n2 1000 rfl rfl
  have b3 := hlim 3 n3 1000 rfl rfl
  have br : ∀ (i : Nat) (hi : i < rest.length), 0 ≤ rest[i] ∧ rest[i] < 100 := fun i hi => hlim (i + 4) rest[i] 100 (by simp [hi]) (by
    show (List.replicate 21 (100 : Int))[i]? = some 100
    rw [List.getElem?_replicate, if_pos (by omega)])
  -- the line
  have lp : 0 < (linesOf rs).length := List.length_pos_iff.mpr hne
  have j0 : 0 ≤ n0 % (linesOf rs).length := Int.emod_nonneg _ (by omega)
  have j1 : n0 % (linesOf rs).length < (linesOf rs).length := Int.emod_lt_of_pos _ (by omega)
  obtain ⟨j, hj⟩ : ∃ j : Nat, n0 % (linesOf rs).length = j := ⟨(n0 % (linesOf rs).length).toNat, by omega⟩
  have jl : j < (linesOf rs).length := by omega
  have hm := List.getElem_mem jl
  obtain ⟨a, b, hab, hl⟩ := mem_lines.mp hm
  obtain ⟨r1, r2, r3, r4⟩ := line_rng hl
  obtain ⟨s, rfl⟩ : ∃ s : Nat, a = s := ⟨a.toNat, by omega⟩
  obtain ⟨t, rfl⟩ : ∃ t : Nat, b = t := ⟨b.toNat, by omega⟩
  have hs : s < rs.length := by omega
  have ht : t < rs.length := by omega
  have el : atI ((linesOf rs).map tupI) (n0 % (linesOf rs).length) = some (.tup [.int (s : Int), .int (t : Int)]) := by
    rw [hj, atI_nat (v := tupI (linesOf rs)[j]) (by simp [jl]), hab]
    rfl
  -- the keys
  have hsh : sharedOf rs[s] rs[t] ≠ [] := fun z => by
    have hc := shared_nil.mp z
    unfold lineI lineB at hl
    simp [hs, ht] at hl
    rw [hl.2] at hc
    cases hc
  have hsl : (sharedOf rs[s] rs[t]).length ≤ 8 := Nat.le_trans (shared_len _ _) (h8 _ (List.getElem_mem hs))
  have kp : 0 < (sharedOf rs[s] rs[t]).length := List.length_pos_iff.mpr hsh
  have i0 : 0 ≤ n1 % (sharedOf rs[s] rs[t]).length := Int.emod_nonneg _ (by omega)
  have i1 : n1 % (sharedOf rs[s] rs[t]).length < (sharedOf rs[s] rs[t]).length := Int.emod_lt_of_pos _ (by omega)
  obtain ⟨i, hi⟩ : ∃ i : Nat, n1 % (sharedOf rs[s] rs[t]).length = i := ⟨(n1 % (sharedOf rs[s] rs[t]).length).toNat, by omega⟩
  have il : i < (sharedOf rs[s] rs[t]).length := by omega
  have hk := List.getElem_mem il
  have hk8 : 0 ≤ (sharedOf rs[s] rs[t])[i] ∧ (sharedOf rs[s] rs[t])[i] < 8 := by
    have h1 := (List.mem_filter.mp hk).1
    have := canon_mem (xs := rs[s]) (by rw [hc _ (List.getElem_mem hs)]; exact h1)
    exact ⟨this.1, this.2.1⟩
  obtain ⟨k, hkk⟩ : ∃ k : Nat, (sharedOf rs[s] rs[t])[i] = k := ⟨((sharedOf rs[s] rs[t])[i]).toNat, by omega⟩
  have ek : atI ((sharedOf rs[s] rs[t]).map W.int) (n1 % (sharedOf rs[s] rs[t]).length) = some (.int (k : Int)) := by
    rw [hi, atI_nat (v := W.int (sharedOf rs[s] rs[t])[i]) (by simp [il]), hkk]
  obtain ⟨v, hv⟩ : ∃ v : Nat, 1000 * n2 + n3 = v := ⟨(1000 * n2 + n3).toNat, by omega⟩
  -- the numbers
  have z1 : ∀ {k : Nat}, k ≤ 1000 → k ≤ sz := fun h => by show _ ≤ 16777216; omega
  have mul : fMul (.lst [.int 100]) (.int 21) = some (.newl (List.replicate 21 (.int 100))) := mul21 _
  have add : fAdd (.lst [.int 30, .int 8, .int 1000, .int 1000]) (.lst (List.replicate 21 (.int 100))) = _ := fAdd_lists (by show 25 ≤ 16777216; omega)
  simp only [List.map_append, List.map_replicate, List.map_cons, List.map_nil] at hx
  generalize hL : List.replicate 21 (W.int 100) = L at mul add hx
  simp only [List.cons_append, List.nil_append] at add hx
  have es : atI (rs.map lstI) (s : Int) = some (lstI rs[s]) := atI_nat (by simp [hs])
  have et : atI (rs.map lstI) (t : Int) = some (lstI rs[t]) := atI_nat (by simp [ht])
  have e0 : atI (W.int n0 :: .int n1 :: .int n2 :: .int n3 :: rest.map W.int) 0 = some (.int n0) := atI_nat (j := 0) rfl
  have e1 : atI (W.int n0 :: .int n1 :: .int n2 :: .int n3 :: rest.map W.int) 1 = some (.int n1) := atI_nat (j := 1) rfl
  have e2 : atI (W.int n0 :: .int n1 :: .int n2 :: .int n3 :: rest.map W.int) 2 = some (.int n2) := atI_nat (j := 2) rfl
  have e3 : atI (W.int n0 :: .int n1 :: .int n2 :: .int n3 :: rest.map W.int) 3 = some (.int n3) := atI_nat (j := 3) rfl
  have f2 : ∀ k, fIn false (.int k) (lstI rs[t]) = some (.imm (.bl (decide (k ∈ rs[t]) != false))) := fun k => fIn_lI false k _
  have lcar := x_law_carried rs ts h6 s t G
  have car21 := carried_21 h6 hts hl
  have nd : (carriedOf rs ts s t).Nodup := (lines_nodup h6).filter _
  have own := carried_own (ts := ts) hl
  have carN : ∀ l ∈ carriedOf rs ts s t, ∃ a b : Nat, l = [(a : Int), (b : Int)] := fun l m => by
    obtain ⟨a, b, e, h⟩ := mem_lines.mp (List.mem_filter.mp m).1
    obtain ⟨q1, q2, q3, q4⟩ := line_rng h
    exact ⟨a.toNat, b.toNat, by rw [e, Int.toNat_of_nonneg q1, Int.toNat_of_nonneg q3]⟩
  generalize hcar : carriedOf rs ts s t = car at lcar car21 nd own carN
  unfold m__law_letter
  rw [fnM_o]
  have hlc : ∀ {x3 x4 : SV}, lcL [11] (tgN 11) (mB (mBin (fIn false) (mName 11) (mBin fIx (mName 0) (mName 9)))) (mName 11) ⟨rs[s].map W.int, none⟩ (rs[s].map W.int) [] ⟨[.val R, .val (.dT (rowsD ts)), .val (.int c), x3, x4, .non, .non, .non, .val (.int (s : Int)), .val (.int (t : Int)), .non, .non], G⟩ =
      some (.ok (.own (.lst ((sharedOf rs[s] rs[t]).map W.int))), ⟨[.val R, .val (.dT (rowsD ts)), .val (.int c), x3, x4, .non, .non, .non, .val (.int (s : Int)), .val (.int (t : Int)), .non, .non], G⟩) := fun {x3 x4} => by
    rw [lc_pure (by exact trivial) (fun k => decide (k ∈ rs[t])) W.int]
    · simp [sharedOf]
    · intro k _
      exact ⟨⟨[.val R, .val (.dT (rowsD ts)), .val (.int c), x3, x4, .non, .non, .non, .val (.int (s : Int)), .val (.int (t : Int)), .non, .val (.int k)], G⟩, by simp [et, f2, hR], fun _ => ⟨⟨[.val R, .val (.dT (rowsD ts)), .val (.int c), x3, x4, .non, .non, .non, .val (.int (s : Int)), .val (.int (t : Int)), .non, .val (.int k)], G⟩, by simp, by simp⟩, fun _ => by simp⟩
    · have := h8 _ (List.getElem_mem hs)
      show _ ≤ 16777216
      simp; omega
  simp [b__law_letter, ll, z1, mul, add, hx, e0, lp, el, es, hlc, lcar, hR]
  generalize hF : forL _ _ _ _ = F
  obtain ⟨s', rfl, v7, v10, cs, rfl, hcl, hcm, hcn, hco⟩ := forL_at hF (fun i st => ∃ v7 v10, ∃ cs : List (Nat × Nat × Nat), st = ⟨[.val R, .val (.dT (rowsD ts)), .val (.int c), .val (.lst ((linesOf rs).map tupI)), .own (.lst (W.int n0 :: .int n1 :: .int n2 :: .int n3 :: rest.map W.int)), .own (.lst ((sharedOf rs[s] rs[t]).map W.int)), .own (.lst (cs.map ctW)), v7, .val (.int (s : Int)), .val (.int (t : Int)), v10, .non], G⟩ ∧
      cs.length = i ∧ cs.map prI = car.take i ∧ (∀ p ∈ cs, p.2.2 < 100) ∧ (∀ p ∈ cs, p.1 = s → p.2.1 = t → 1 ≤ p.2.2)) ⟨.non, .non, [], rfl, rfl, by simp, by simp, by simp⟩ (by
    rintro i hi st ⟨v7, v10, cs, rfl, hcl, hcm, hcn, hco⟩
    have hi : i < car.length := by simpa using hi
    have ew : (List.map tupI car)[i]'(by simpa using hi) = tupI car[i] := by simp
    obtain ⟨a, b, hab'⟩ := carN _ (List.getElem_mem hi)
    rw [ew, hab']
    have hr : i < rest.length := by omega
    have hb := br i hr
    obtain ⟨m, hm'⟩ : ∃ m : Nat, rest[i] = m := ⟨rest[i].toNat, by omega⟩
    have er : atI (W.int n0 :: .int n1 :: .int n2 :: .int n3 :: rest.map W.int) (4 + (cs.length : Int)) = some (.int (m : Int)) := by
      have : (4 + (cs.length : Int)) = ((i + 4 : Nat) : Int) := by omega
      rw [this, ← hm']
      exact atI_nat (by simp [hr])
    have g0 : atI [W.int (a : Int), W.int (b : Int)] 0 = some (.int (a : Int)) := atI_nat (j := 0) rfl
    have g1 : atI [W.int (a : Int), W.int (b : Int)] 1 = some (.int (b : Int)) := atI_nat (j := 1) rfl
    have q2 := fEqD_2 (a : Int) (b : Int) (s : Int) (t : Int)
    have lz : cs.length < sz := by show _ < 16777216; omega
    have z2 : 2 ≤ sz := by decide
    have z3 : 3 ≤ sz := by decide
    have tk : ∀ n : Nat, (cs ++ [(a, b, n)]).map prI = car.take (i + 1) := fun n => by
      rw [List.map_append, hcm, List.take_succ_eq_append_getElem hi, hab']
      rfl
    have wr : ∀ n : Nat, (cs ++ [(a, b, n)]).map ctW = cs.map ctW ++ [.tup [.int (a : Int), .int (b : Int), .int (n : Int)]] := fun n => by
      rw [List.map_append]
      rfl
    by_cases own' : (a : Int) = s ∧ (b : Int) = t ∧ (m : Int) = 0
    · refine ⟨⟨[.val R, .val (.dT (rowsD ts)), .val (.int c), .val (.lst ((linesOf rs).map tupI)), .own (.lst (W.int n0 :: .int n1 :: .int n2 :: .int n3 :: rest.map W.int)), .own (.lst ((sharedOf rs[s] rs[t]).map W.int)), .own (.lst ((cs ++ [(a, b, 99)]).map ctW)), .val (tupI [(a : Int), (b : Int)]), .val (.int (s : Int)), .val (.int (t : Int)), .val (.int 99), .non], G⟩, ?_, _, _, cs ++ [(a, b, 99)], rfl, by simp [hcl], tk 99, ?_, ?_⟩
      · obtain ⟨o1, o2, o3⟩ := own'
        rw [wr]
        have q3 : decide ((a : Int) = s ∧ (b : Int) = t) = true := decide_eq_true ⟨o1, o2⟩
        rw [q3] at q2
        rw [o3] at er
        simp [tupI, er, g0, g1, q2, z2, z3, fEqD_i, fAppend, lz]
      · intro p hp
        rcases List.mem_append.mp hp with hp | hp
        · exact hcn p hp
        · rw [List.mem_singleton.mp hp]
          show 99 < 100
          omega
      · intro p hp h1 h2
        rcases List.mem_append.mp hp with hp | hp
        · exact hco p hp h1 h2
        · rw [List.mem_singleton.mp hp]
          show 1 ≤ 99
          omega
    · refine ⟨⟨[.val R, .val (.dT (rowsD ts)), .val (.int c), .val (.lst ((linesOf rs).map tupI)), .own (.lst (W.int n0 :: .int n1 :: .int n2 :: .int n3 :: rest.map W.int)), .own (.lst ((sharedOf rs[s] rs[t]).map W.int)), .own (.lst ((cs ++ [(a, b, m)]).map ctW)), .val (tupI [(a : Int), (b : Int)]), .val (.int (s : Int)), .val (.int (t : Int)), .val (.int (m : Int)), .non], G⟩, ?_, _, _, cs ++ [(a, b, m)], rfl, by simp [hcl], tk m, ?_, ?_⟩
      · rw [wr]
        cases q3 : decide ((a : Int) = s ∧ (b : Int) = t) with
        | false =>
          rw [q3] at q2
          simp [tupI, er, g0, g1, q2, z2, z3, fEqD_i, fAppend, lz]
        | true =>
          rw [q3] at q2
          have o := of_decide_eq_true q3
          have m0 : ¬ (m : Int) = 0 := fun z => own' ⟨o.1, o.2, z⟩
          have m1 : ¬ m = 0 := by omega
          simp [tupI, er, g0, g1, q2, z2, z3, fEqD_i, m0, m1, fAppend, lz]
      · intro p hp
        rcases List.mem_append.mp hp with hp | hp
        · exact hcn p hp
        · rw [List.mem_singleton.mp hp]
          show m < 100
          omega
      · intro p hp h1 h2
        rcases List.mem_append.mp hp with hp | hp
        · exact hco p hp h1 h2
        · rw [List.mem_singleton.mp hp] at h1 h2 ⊢
          show 1 ≤ m
          have h1 : a = s := h1
          have h2 : b = t := h2
          have : ¬ (m : Int) = 0 := fun z => own' ⟨by omega, by omega, z⟩
          omega)
  have full : cs.map prI = car := by rw [hcm, List.length_map, List.take_length]
  obtain ⟨n, hn, hnm⟩ := own_one (s := s) (t := t) (cs := cs) (by rw [full]; exact nd) (by rw [full]; exact own)
  have z5 : 5 ≤ sz := by decide
  have cm : CMul 1000 n2 := by unfold CMul; left; decide
  refine ⟨s, t, k, v, n, cs, ⟨by omega, by omega, by omega, by omega, hcn, by rw [hcl, List.length_map]; omega⟩, hn, hco _ hnm rfl rfl, hl, ?_, full.trans hcar.symm, ?_⟩
  · simp [hs, ht]
    rw [← hkk]
    exact hk
  · simp [e1, e2, e3, kp, ek, hv, z5, cm, outF]
end Z

set_option linter.all false
set_option maxRecDepth 100000
set_option maxHeartbeats 2000000
namespace Z
open PySem PySem.Spec PyProof.Rows L2
def Sv (v : SV) (c : Cell) : Prop := v = .own c ∨ v = .val c.toW
def dueW (s t k v : Nat) (cs : List (Nat × Nat × Nat)) : W := .tup [.int (s : Int), .int (t : Int), .int (k : Int), .int (v : Int), .lst (cs.map ctW)]
theorem mk_let {r : List SV} {G : List Cell} {s t k v : Nat} {cs : List (Nat × Nat × Nat)} {e : W} (h : derefW ⟨r, G⟩ e = some (.lst (cs.map ctW)) ∨ derefW ⟨r, G⟩ e = some (.tup (cs.map ctW))) :
    mk5 "Letter" [.int (s : Int), .int (t : Int), .int (k : Int), .int (v : Int), e] ⟨r, G⟩ = some (.ok (.val (letW s t k v cs)), ⟨r, G⟩) := by
  rcases h with h | h <;> simp [h, letW]
theorem set_last {E : List Cell} {a b c : Cell} : (c :: (E ++ [a])).set (E.length + 1) b = c :: (E ++ [b]) := by
  rw [List.set_cons_succ, List.set_append_right _ _ (Nat.le_refl _), Nat.sub_self]
  rfl
theorem get_last {E : List Cell} {a c : Cell} : (c :: (E ++ [a]))[E.length + 1]? = some a := by
  rw [List.getElem?_cons_succ, List.getElem?_append_right (Nat.le_refl _), Nat.sub_self]
  rfl
theorem body_ok {X0 : W} {rs ts : List (List Int)} (hc : ∀ xs ∈ rs, canon xs = xs) (h6 : rs.length ≤ 6) (hts : Cts ts) (hne : linesOf rs ≠ []) (j c : Int) (hy : ∀ G, m__law_cell [X0, .int j] G = some (.ok (.val (.int c)), G)) (hX : ∀ r G, freeze (.val X0) ⟨r, G⟩ = some (.ok X0, ⟨r, G⟩))
    {x2 v4 v5 v6 v7 v8 v9 v10 v11 v12 : SV} (h2 : Sv x2 (.dT (rowsD ts))) (E : List Cell) :
    ∃ w4 w5 w6 w7 w8 w9 w10 w11 w12 E', law_s3b_t0 ⟨[.val X0, .val (.ref 0), x2, .val (.int j), v4, v5, v6, v7, v8, v9, v10, v11, v12], .lst (rs.map lstI) :: E⟩ =
      some (.ok .nx, ⟨[.val X0, .val (.ref 0), .val (.dT (rowsD ts)), .val (.int j), w4, w5, w6, w7, w8, w9, w10, w11, w12], .lst (rs.map lstI) :: E'⟩) := by
  have tdT : (Cell.dT (rowsD ts)).toW = .dT (rowsD ts) := rfl
  obtain ⟨s, t, k, v, n, cs, ok, own, n1, hl, hk, hcar, run⟩ := x_law_letter hc h6 hts hne c (.lst (rs.map lstI) :: E) (R := .ref 0) (fun r => rfl)
  have z2 : 2 ≤ sz := by decide
  have z3 : 3 ≤ sz := by decide
  have z5 : 5 ≤ sz := by decide
  have ll := ok.l
  have l1 : cs.length < sz := by show _ < 16777216; omega
  have lD : (letT s t k v cs).length ≤ 1000 := by have := ok.len; omega
  have sl := fun G => x_same_letter (k := k) (v := v) own ok.l G
  have dg := fun G => x_digits ok G
  have pk := fun G => x_pack ok G
  have sb := fun G => x_same_bytes (let_dig (s := s) (t := t) (k := k) (v := v) (cs := cs)) lD G
  have fl : fList [.lst (cs.map ctW)] = some (.newl (cs.map ctW)) := rfl
  have ft : fTuple [.lst (cs.map ctW)] = some (.newt (cs.map ctW)) := rfl
  have mk1 : ∀ {r : List SV} {E : List Cell}, mk5 "Letter" [.int (s : Int), .int (t : Int), .int (k : Int), .int (v : Int), .ref (E.length + 1)] ⟨r, .lst (rs.map lstI) :: (E ++ [.lst (cs.map ctW)])⟩ = some (.ok (.val (letW s t k v cs)), ⟨r, .lst (rs.map lstI) :: (E ++ [.lst (cs.map ctW)])⟩) := mk_let (.inl (by
    show ((_ : List Cell)[_]?).map Cell.toW = _
    rw [get_last]
    rfl))
  have mk2 : ∀ {r : List SV} {G : List Cell}, mk5 "Letter" [.int (s : Int), .int (t : Int), .int (k : Int), .int (v : Int), .tup (cs.map ctW)] ⟨r, G⟩ = some (.ok (.val (letW s t k v cs)), ⟨r, G⟩) := mk_let (.inr rfl)
  have st0 : law_s3b_s0 ⟨[.val X0, .val (.ref 0), x2, .val (.int j), v4, v5, v6, v7, v8, v9, v10, v11, v12], .lst (rs.map lstI) :: E⟩ =
      some (.ok .nx, ⟨[.val X0, .val (.ref 0), .val (.dT (rowsD ts)), .val (.int j), v4, v5, v6, v7, .val (.int (s : Int)), .val (.int (t : Int)), .val (.int (k : Int)), .val (.int (v : Int)), .val (.lst (cs.map ctW))], .lst (rs.map lstI) :: E⟩) := by
    rcases h2 with rfl | rfl <;> simp [law_s3b_s0, hy, hX, run, tdT]
  have st1 : law_s3b_s1 ⟨[.val X0, .val (.ref 0), .val (.dT (rowsD ts)), .val (.int j), v4, v5, v6, v7, .val (.int (s : Int)), .val (.int (t : Int)), .val (.int (k : Int)), .val (.int (v : Int)), .val (.lst (cs.map ctW))], .lst (rs.map lstI) :: E⟩ =
      some (.ok .nx, ⟨[.val X0, .val (.ref 0), .val (.dT (rowsD ts)), .val (.int j), .val (.ref (E.length + 1)), v5, v6, v7, .val (.int (s : Int)), .val (.int (t : Int)), .val (.int (k : Int)), .val (.int (v : Int)), .val (.lst (cs.map ctW))], .lst (rs.map lstI) :: (E ++ [.lst (cs.map ctW)])⟩) := by
    simp [law_s3b_s1, fl]
  have st2 : law_s3b_s2 ⟨[.val X0, .val (.ref 0), .val (.dT (rowsD ts)), .val (.int j), .val (.ref (E.length + 1)), v5, v6, v7, .val (.int (s : Int)), .val (.int (t : Int)), .val (.int (k : Int)), .val (.int (v : Int)), .val (.lst (cs.map ctW))], .lst (rs.map lstI) :: (E ++ [.lst (cs.map ctW)])⟩ =
      some (.ok .nx, ⟨[.val X0, .val (.ref 0), .val (.dT (rowsD ts)), .val (.int j), .val (.ref (E.length + 1)), .val (letW s t k v cs), v6, v7, .val (.int (s : Int)), .val (.int (t : Int)), .val (.int (k : Int)), .val (.int (v : Int)), .val (.lst (cs.map ctW))], .lst (rs.map lstI) :: (E ++ [.lst (cs.map ctW)])⟩) := by
    simp [law_s3b_s2, mk1]
  have st3 : law_s3b_s3 ⟨[.val X0, .val (.ref 0), .val (.dT (rowsD ts)), .val (.int j), .val (.ref (E.length + 1)), .val (letW s t k v cs), v6, v7, .val (.int (s : Int)), .val (.int (t : Int)), .val (.int (k : Int)), .val (.int (v : Int)), .val (.lst (cs.map ctW))], .lst (rs.map lstI) :: (E ++ [.lst (cs.map ctW)])⟩ =
      some (.ok .nx, ⟨[.val X0, .val (.ref 0), .val (.dT (rowsD ts)), .val (.int j), .val (.ref (E.length + 1)), .val (letW s t k v cs), v6, v7, .val (.int (s : Int)), .val (.int (t : Int)), .val (.int (k : Int)), .val (.int (v : Int)), .val (.lst (cs.map ctW))], .lst (rs.map lstI) :: (E ++ [.lst (cs.map ctW ++ [.tup [.int 0, .int 0, .int 0]])])⟩) := by
    have g := get_last (E := E) (a := .lst (cs.map ctW)) (c := .lst (rs.map lstI))
    have p := fun b => set_last (E := E) (a := .lst (cs.map ctW)) (c := .lst (rs.map lstI)) (b := b)
    simp [law_s3b_s3, g, p, z3, fAppend, l1]
  have st4 : ∃ E', law_s3b_s4 ⟨[.val X0, .val (.ref 0), .val (.dT (rowsD ts)), .val (.int j), .val (.ref (E.length + 1)), .val (letW s t k v cs), v6, v7, .val (.int (s : Int)), .val (.int (t : Int)), .val (.int (k : Int)), .val (.int (v : Int)), .val (.lst (cs.map ctW))], .lst (rs.map lstI) :: (E ++ [.lst (cs.map ctW ++ [.tup [.int 0, .int 0, .int 0]])])⟩ =
      some (.ok .nx, ⟨[.val X0, .val (.ref 0), .val (.dT (rowsD ts)), .val (.int j), .val (.ref (E.length + 1)), .val (letW s t k v cs), v6, v7, .val (.int (s : Int)), .val (.int (t : Int)), .val (.int (k : Int)), .val (.int (v : Int)), .val (.lst (cs.map ctW))], .lst (rs.map lstI) :: E'⟩) := by
    have g := get_last (E := E) (a := .lst (cs.map ctW ++ [.tup [.int 0, .int 0, .int 0]])) (c := .lst (rs.map lstI))
    have p := fun b => set_last (E := E) (a := .lst (cs.map ctW ++ [.tup [.int 0, .int 0, .int 0]])) (c := .lst (rs.map lstI)) (b := b)
    have fs : fSet (.lst (cs.map ctW ++ [W.tup [.int 0, .int 0, .int 0]])) (.int 0) (.tup [.int 1, .int 1, .int 1]) = some (.lst ((cs.map ctW ++ [W.tup [.int 0, .int 0, .int 0]]).set 0 (W.tup [.int 1, .int 1, .int 1]))) := fSet_nat (k := 0) (by simp)
    generalize (cs.map ctW ++ [W.tup [.int 0, .int 0, .int 0]]).set 0 (W.tup [.int 1, .int 1, .int 1]) = Z at fs
    exact ⟨_, by simp [law_s3b_s4, g, p, z3, fs]; rfl⟩
  obtain ⟨E', st4⟩ := st4
  have rest : law_s3b_t5 ⟨[.val X0, .val (.ref 0), .val (.dT (rowsD ts)), .val (.int j), .val (.ref (E.length + 1)), .val (letW s t k v cs), v6, v7, .val (.int (s : Int)), .val (.int (t : Int)), .val (.int (k : Int)), .val (.int (v : Int)), .val (.lst (cs.map ctW))], .lst (rs.map lstI) :: E'⟩ =
      some (.ok .nx, ⟨[.val X0, .val (.ref 0), .val (.dT (rowsD ts)), .val (.int j), .val (.ref (E.length + 1)), .val (letW s t k v cs), .val (dueW s t k v cs), .val (letW s t k v cs), .val (.int (s : Int)), .val (.int (t : Int)), .val (.int (k : Int)), .val (.int (v : Int)), .val (.lst (cs.map ctW))], .lst (rs.map lstI) :: E'⟩) := by
    simp [law_s3b_t5, law_s3b_s5, law_s3b_t6, law_s3b_s6, law_s3b_t7, law_s3b_s7, law_s3b_t8, law_s3b_s8, law_s3b_t9, law_s3b_s9, z5, sl, dg, pk, sb, ft, mk2, dueW]
  have e : law_s3b_t0 ⟨[.val X0, .val (.ref 0), x2, .val (.int j), v4, v5, v6, v7, v8, v9, v10, v11, v12], .lst (rs.map lstI) :: E⟩ =
      law_s3b_t5 ⟨[.val X0, .val (.ref 0), .val (.dT (rowsD ts)), .val (.int j), .val (.ref (E.length + 1)), .val (letW s t k v cs), v6, v7, .val (.int (s : Int)), .val (.int (t : Int)), .val (.int (k : Int)), .val (.int (v : Int)), .val (.lst (cs.map ctW))], .lst (rs.map lstI) :: E'⟩ := by
    show mSeq law_s3b_s0 law_s3b_t1 _ = _
    rw [seq_at st0]
    show mSeq law_s3b_s1 law_s3b_t2 _ = _
    rw [seq_at st1]
    show mSeq law_s3b_s2 law_s3b_t3 _ = _
    rw [seq_at st2]
    show mSeq law_s3b_s3 law_s3b_t4 _ = _
    rw [seq_at st3]
    show mSeq law_s3b_s4 law_s3b_t5 _ = _
    rw [seq_at st4]
  exact ⟨_, _, _, _, _, _, _, _, _, E', e.trans rest⟩
/-- two copies that share a key, put where no line was -/
theorem put_lines {rs : List (List Int)} (h2 : 2 ≤ rs.length) : linesOf ((rs.set 0 [0, 5, 7]).set 1 [3, 5, 7]) ≠ [] := by
  match rs, h2 with
  | a :: b :: r, _ =>
    intro z
    have h : [(0 : Int), 1] ∈ linesOf ([0, 5, 7] :: [3, 5, 7] :: r) := mem_line.mpr (by
      unfold lineI lineB
      simp [common]
      omega)
    have e : ((a :: b :: r).set 0 [0, 5, 7]).set 1 [3, 5, 7] = [0, 5, 7] :: [3, 5, 7] :: r := rfl
    rw [e] at z
    rw [z] at h
    cases h
theorem says : Says m_law := by
  intro ns hl hb
  unfold m_law
  rw [fnM_o]
  have y0 : ∀ G, m__law_cell [.frl (ns.map W.int), .int 0] G = some (.ok (.val (.int (ns.getD 0 0))), G) := fun G => x_cell ns 0 G
  have y1 : ∀ G, m__law_cell [.frl (ns.map W.int), .int 1] G = some (.ok (.val (.int (ns.getD 1 0))), G) := fun G => x_cell ns 1 G
  have yk : ∀ (i : Nat) G, m__law_cell [.frl (ns.map W.int), .int (2 + (i : Int))] G = some (.ok (.val (.int (ns.getD (i + 2) 0))), G) := fun i G => by
    have := x_cell ns (i + 2) G
    rwa [show ((i + 2 : Nat) : Int) = 2 + (i : Int) by omega] at this
  generalize ns.getD 0 0 = c0 at y0
  generalize ns.getD 1 0 = c1 at y1
  obtain ⟨rs, hrs, hr1, h6, hc⟩ := x_rows c0 2 6 (by omega) (by omega) (by omega) []
  have h2 : 2 ≤ rs.length := by omega
  have h6 : rs.length ≤ 6 := by omega
  obtain ⟨p0, e0⟩ := x_counts c1 [.lst (rs.map lstI)]
  have cp : Cts (every.filter p0) := cts_filter p0
  have kn := x_known (every.filter p0) cp.ne (every_nodup.filter _) cp.len [.lst (rs.map lstI)]
  have ll := x_law_linesR rowE_lst rs (by omega) (canon_len8 hc) [.lst (rs.map lstI)] (R := .ref 0) (fun r => rfl)
  have z3 : 3 ≤ sz := by decide
  rw [law_cut]
  obtain ⟨rs', h6', hc', hne, e⟩ : ∃ rs' : List (List Int), rs'.length ≤ 6 ∧ (∀ xs ∈ rs', canon xs = xs) ∧ linesOf rs' ≠ [] ∧ law_t0 ⟨[.val (.frl (ns.map W.int)), .non, .non, .non, .non, .non, .non, .non, .non, .non, .non, .non, .non], []⟩ =
      law_t3 ⟨[.val (.frl (ns.map W.int)), .val (.ref 0), .own (.dT (rowsD (every.filter p0))), .non, .non, .non, .non, .non, .non, .non, .non, .non, .non], [.lst (rs'.map lstI)]⟩ := by
    have eq := fEqD_emb emb_rows (by decide : 2 ≤ 64) (linesOf rs) []
    simp only [List.map_nil] at eq
    by_cases hne : linesOf rs = []
    · refine ⟨(rs.set 0 [0, 5, 7]).set 1 [3, 5, 7], by simpa using h6, ?_, put_lines h2, ?_⟩
      · intro xs m
        rcases List.mem_or_eq_of_mem_set m with m | rfl
        · rcases List.mem_or_eq_of_mem_set m with m | rfl
          · exact hc xs m
          · decide +kernel
        · decide +kernel
      · have s0 : fSet (.lst (rs.map lstI)) (.int 0) (.lst [.int 0, .int 5, .int 7]) = some (.lst ((rs.map lstI).set 0 (.lst [.int 0, .int 5, .int 7]))) := fSet_nat (k := 0) (by simp; omega)
        have s1 : fSet (.lst ((rs.map lstI).set 0 (.lst [.int 0, .int 5, .int 7]))) (.int 1) (.lst [.int 3, .int 5, .int 7]) = some (.lst (((rs.map lstI).set 0 (.lst [.int 0, .int 5, .int 7])).set 1 (.lst [.int 3, .int 5, .int 7]))) := fSet_nat (k := 1) (by simp; omega)
        have back : ((rs.map lstI).set 0 (.lst [.int 0, .int 5, .int 7])).set 1 (.lst [.int 3, .int 5, .int 7]) = (((rs.set 0 [0, 5, 7]).set 1 [3, 5, 7]).map lstI) := by
          rw [List.map_set, List.map_set]
          rfl
        rw [back] at s1
        generalize (rs.map lstI).set 0 (W.lst [.int 0, .int 5, .int 7]) = A at s0 s1
        generalize (((rs.set 0 [0, 5, 7]).set 1 [3, 5, 7]).map lstI) = B at s1
        rw [hne] at eq ll
        simp only [List.map_nil] at ll eq
        simp [law_t0, law_s0, law_t1, law_s1, law_t2, law_s2, law_s2a_t0, law_s2a_s0, law_s2a_t1, law_s2a_s1, y0, y1, hrs, e0, kn, ll, eq, s0, s1, z3]
    · refine ⟨rs, h6, hc, hne, ?_⟩
      rw [decide_eq_false hne] at eq
      simp [law_t0, law_s0, law_t1, law_s1, law_t2, law_s2, y0, y1, hrs, e0, kn, ll, eq]
  simp only [List.map_cons, List.map_nil]
  show ∃ G', outF (law_t0 ⟨[.val (.frl (ns.map W.int)), .non, .non, .non, .non, .non, .non, .non, .non, .non, .non, .non, .non], []⟩) = _
  rw [e]
  have rl : Rl 2 5 := by unfold Rl RgOk; decide
  simp [law_t3, law_s3, rl]
  generalize hF : forL _ _ _ _ = F
  obtain ⟨s', rfl, x2, v3, v4, v5, v6, v7, v8, v9, v10, v11, v12, E, rfl, _⟩ := forL_at hF (fun i s => ∃ x2 v3 v4 v5 v6 v7 v8 v9 v10 v11 v12 E, s = ⟨[.val (.frl (ns.map W.int)), .val (.ref 0), x2, v3, v4, v5, v6, v7, v8, v9, v10, v11, v12], .lst (rs'.map lstI) :: E⟩ ∧ Sv x2 (.dT (rowsD (every.filter p0)))) ⟨_, _, _, _, _, _, _, _, _, _, _, _, rfl, .inl rfl⟩ (by
    rintro i hi s ⟨x2, v3, v4, v5, v6, v7, v8, v9, v10, v11, v12, E, rfl, hx2⟩
    have ew : (rngW 2 3)[i]'(by simpa using hi) = W.int (2 + (i : Int)) := by simp [rngW]
    rw [ew]
    obtain ⟨w4, w5, w6, w7, w8, w9, w10, w11, w12, E', e⟩ := body_ok hc' h6' cp hne (2 + (i : Int)) _ (yk i) (fun _ _ => rfl) hx2 E (v4 := v4) (v5 := v5) (v6 := v6) (v7 := v7) (v8 := v8) (v9 := v9) (v10 := v10) (v11 := v11) (v12 := v12)
    exact ⟨_, by simpa using e, _, _, _, _, _, _, _, _, _, _, _, _, rfl, .inr rfl⟩)
  simp [law_t4, law_s4, outF]
end Z

namespace Z
open PySem PySem.Spec PyProof.Rows L2
theorem all_mk {l : PySem.W.OpenLaw} {w : World} {K : PySem.W.Frag} {h : Heap} {mg : Str → Option Value} {fa : Addr} (X : K.In h) (G : h.Ns mainGlobals mg) (hfa : mg "law" = some (.ref fa))
    {C_Letter f__law_numbers f__law_row f__law_rows f__law_cell f__law_known f__law_triples f__law_counts f__law_lines f__law_carried f__law_letter f_Letter___init__ f_Letter_number f__law_is_int f__law_same_rows f__law_same_letter f__law_same_bytes f__law_digits f_pack f_law : Addr}
    {oc__law_numbers kV__law_numbers dc__law_numbers pm__law_numbers cd__law_numbers ct__law_numbers oc__law_row kV__law_row dc__law_row pm__law_row cd__law_row ct__law_row oc__law_rows kV__law_rows dc__law_rows pm__law_rows cd__law_rows ct__law_rows oc__law_cell kV__law_cell dc__law_cell pm__law_cell cd__law_cell ct__law_cell oc__law_known kV__law_known dc__law_known pm__law_known cd__law_known ct__law_known oc__law_triples kV__law_triples dc__law_triples pm__law_triples cd__law_triples ct__law_triples oc__law_counts kV__law_counts dc__law_counts pm__law_counts cd__law_counts ct__law_counts oc__law_lines kV__law_lines dc__law_lines pm__law_lines cd__law_lines ct__law_lines oc__law_carried kV__law_carried dc__law_carried pm__law_carried cd__law_carried ct__law_carried oc__law_letter kV__law_letter dc__law_letter pm__law_letter cd__law_letter ct__law_letter oc_Letter___init__ kV_Letter___init__ dc_Letter___init__ pm_Letter___init__ cd_Letter___init__ ct_Letter___init__ oc_Letter_number kV_Letter_number dc_Letter_number pm_Letter_number cd_Letter_number ct_Letter_number oc__law_is_int kV__law_is_int dc__law_is_int pm__law_is_int cd__law_is_int ct__law_is_int oc__law_same_rows kV__law_same_rows dc__law_same_rows pm__law_same_rows cd__law_same_rows ct__law_same_rows oc__law_same_letter kV__law_same_letter dc__law_same_letter pm__law_same_letter cd__law_same_letter ct__law_same_letter oc__law_same_bytes kV__law_same_bytes dc__law_same_bytes pm__law_same_bytes cd__law_same_bytes ct__law_same_bytes oc__law_digits kV__law_digits dc__law_digits pm__law_digits cd__law_digits ct__law_digits oc_pack kV_pack dc_pack pm_pack cd_pack ct_pack oc_law kV_law dc_law pm_law cd_law ct_law : Value}
    {od__law_numbers an__law_numbers od__law_row an__law_row od__law_rows an__law_rows od__law_cell an__law_cell od__law_known an__law_known od__law_triples an__law_triples od__law_counts an__law_counts od__law_lines an__law_lines od__law_carried an__law_carried od__law_letter an__law_letter od_Letter___init__ an_Letter___init__ od_Letter_number an_Letter_number od__law_is_int an__law_is_int od__law_same_rows an__law_same_rows od__law_same_letter an__law_same_letter od__law_same_bytes an__law_same_bytes od__law_digits an__law_digits od_pack an_pack od_law an_law : Option Addr}
    {sl__law_numbers sl__law_row sl__law_rows sl__law_cell sl__law_known sl__law_triples sl__law_counts sl__law_lines sl__law_carried sl__law_letter sl_Letter___init__ sl_Letter_number sl__law_is_int sl__law_same_rows sl__law_same_letter sl__law_same_bytes sl__law_digits sl_pack sl_law : Array (Option Value)}
    {p_Letter_counts p_Letter_key p_Letter_sender p_Letter_taker p_Letter_value : Addr}
    {pr_Letter_number : Addr} {pz_Letter_number : List Value}
    (aC_Letter : PySem.W.nsIn K mainGlobals "Letter" = some (some (.ref C_Letter)))
    (sla_Letter_counts : PySem.W.findIn K (.ref C_Letter) "counts" = some (some (.ref p_Letter_counts)))
    (sla_Letter_key : PySem.W.findIn K (.ref C_Letter) "key" = some (some (.ref p_Letter_key)))
    (sla_Letter_sender : PySem.W.findIn K (.ref C_Letter) "sender" = some (some (.ref p_Letter_sender)))
    (sla_Letter_taker : PySem.W.findIn K (.ref C_Letter) "taker" = some (some (.ref p_Letter_taker)))
    (sla_Letter_value : PySem.W.findIn K (.ref C_Letter) "value" = some (some (.ref p_Letter_value)))
    (ppa_Letter_number : PySem.W.findIn K (.ref C_Letter) "number" = some (some (.ref pr_Letter_number)))
    (a__law_numbers : PySem.W.nsIn K mainGlobals "_law_numbers" = some (some (.ref f__law_numbers)))
    (a__law_row : PySem.W.nsIn K mainGlobals "_law_row" = some (some (.ref f__law_row)))
    (a__law_rows : PySem.W.nsIn K mainGlobals "_law_rows" = some (some (.ref f__law_rows)))
    (a__law_cell : PySem.W.nsIn K mainGlobals "_law_cell" = some (some (.ref f__law_cell)))
    (a__law_known : PySem.W.nsIn K mainGlobals "_law_known" = some (some (.ref f__law_known)))
    (a__law_triples : PySem.W.nsIn K mainGlobals "_law_triples" = some (some (.ref f__law_triples)))
    (a__law_counts : PySem.W.nsIn K mainGlobals "_law_counts" = some (some (.ref f__law_counts)))
    (a__law_lines : PySem.W.nsIn K mainGlobals "_law_lines" = some (some (.ref f__law_lines)))
    (a__law_carried : PySem.W.nsIn K mainGlobals "_law_carried" = some (some (.ref f__law_carried)))
    (a__law_letter : PySem.W.nsIn K mainGlobals "_law_letter" = some (some (.ref f__law_letter)))
    (ma_Letter___init__ : PySem.W.findIn K (.ref C_Letter) "__init__" = some (some (.ref f_Letter___init__)))
    (a__law_is_int : PySem.W.nsIn K mainGlobals "_law_is_int" = some (some (.ref f__law_is_int)))
    (a__law_same_rows : PySem.W.nsIn K mainGlobals "_law_same_rows" = some (some (.ref f__law_same_rows)))
    (a__law_same_letter : PySem.W.nsIn K mainGlobals "_law_same_letter" = some (some (.ref f__law_same_letter)))
    (a__law_same_bytes : PySem.W.nsIn K mainGlobals "_law_same_bytes" = some (some (.ref f__law_same_bytes)))
    (a__law_digits : PySem.W.nsIn K mainGlobals "_law_digits" = some (some (.ref f__law_digits)))
    (a_pack : PySem.W.nsIn K mainGlobals "pack" = some (some (.ref f_pack)))
    (a_law : PySem.W.nsIn K mainGlobals "law" = some (some (.ref f_law)))
    (ppr_Letter_number : PySem.W.recIn K pr_Letter_number "property" = some (.ref f_Letter_number :: pz_Letter_number))
    (l__law_numbers : K.lookup f__law_numbers = some ⟨oc__law_numbers, od__law_numbers, .func (PySem.W.fnOf "_law_numbers" "_law_numbers" (defArgs s__law_numbers) (defBody s__law_numbers) (defScope s__law_numbers) .none kV__law_numbers dc__law_numbers pm__law_numbers an__law_numbers cd__law_numbers ct__law_numbers), sl__law_numbers⟩)
    (l__law_row : K.lookup f__law_row = some ⟨oc__law_row, od__law_row, .func (PySem.W.fnOf "_law_row" "_law_row" (defArgs s__law_row) (defBody s__law_row) (defScope s__law_row) .none kV__law_row dc__law_row pm__law_row an__law_row cd__law_row ct__law_row), sl__law_row⟩)
    (l__law_rows : K.lookup f__law_rows = some ⟨oc__law_rows, od__law_rows, .func (PySem.W.fnOf "_law_rows" "_law_rows" (defArgs s__law_rows) (defBody s__law_rows) (defScope s__law_rows) .none kV__law_rows dc__law_rows pm__law_rows an__law_rows cd__law_rows ct__law_rows), sl__law_rows⟩)
    (l__law_cell : K.lookup f__law_cell = some ⟨oc__law_cell, od__law_cell, .func (PySem.W.fnOf "_law_cell" "_law_cell" (defArgs s__law_cell) (defBody s__law_cell) (defScope s__law_cell) .none kV__law_cell dc__law_cell pm__law_cell an__law_cell cd__law_cell ct__law_cell), sl__law_cell⟩)
    (l__law_known : K.lookup f__law_known = some ⟨oc__law_known, od__law_known, .func (PySem.W.fnOf "_law_known" "_law_known" (defArgs s__law_known) (defBody s__law_known) (defScope s__law_known) .none kV__law_known dc__law_known pm__law_known an__law_known cd__law_known ct__law_known), sl__law_known⟩)
    (l__law_triples : K.lookup f__law_triples = some ⟨oc__law_triples, od__law_triples, .func (PySem.W.fnOf "_law_triples" "_law_triples" (defArgs s__law_triples) (defBody s__law_triples) (defScope s__law_triples) .none kV__law_triples dc__law_triples pm__law_triples an__law_triples cd__law_triples ct__law_triples), sl__law_triples⟩)
    (l__law_counts : K.lookup f__law_counts = some ⟨oc__law_counts, od__law_counts, .func (PySem.W.fnOf "_law_counts" "_law_counts" (defArgs s__law_counts) (defBody s__law_counts) (defScope s__law_counts) .none kV__law_counts dc__law_counts pm__law_counts an__law_counts cd__law_counts ct__law_counts), sl__law_counts⟩)
    (l__law_lines : K.lookup f__law_lines = some ⟨oc__law_lines, od__law_lines, .func (PySem.W.fnOf "_law_lines" "_law_lines" (defArgs s__law_lines) (defBody s__law_lines) (defScope s__law_lines) .none kV__law_lines dc__law_lines pm__law_lines an__law_lines cd__law_lines ct__law_lines), sl__law_lines⟩)
    (l__law_carried : K.lookup f__law_carried = some ⟨oc__law_carried, od__law_carried, .func (PySem.W.fnOf "_law_carried" "_law_carried" (defArgs s__law_carried) (defBody s__law_carried) (defScope s__law_carried) .none kV__law_carried dc__law_carried pm__law_carried an__law_carried cd__law_carried ct__law_carried), sl__law_carried⟩)
    (l__law_letter : K.lookup f__law_letter = some ⟨oc__law_letter, od__law_letter, .func (PySem.W.fnOf "_law_letter" "_law_letter" (defArgs s__law_letter) (defBody s__law_letter) (defScope s__law_letter) .none kV__law_letter dc__law_letter pm__law_letter an__law_letter cd__law_letter ct__law_letter), sl__law_letter⟩)
    (l_Letter___init__ : K.lookup f_Letter___init__ = some ⟨oc_Letter___init__, od_Letter___init__, .func (PySem.W.fnOf "__init__" "Letter.__init__" (defArgs s_Letter___init__) (defBody s_Letter___init__) (defScope s_Letter___init__) .none kV_Letter___init__ dc_Letter___init__ pm_Letter___init__ an_Letter___init__ cd_Letter___init__ ct_Letter___init__), sl_Letter___init__⟩)
    (l_Letter_number : K.lookup f_Letter_number = some ⟨oc_Letter_number, od_Letter_number, .func (PySem.W.fnOf "number" "Letter.number" (defArgs s_Letter_number) (defBody s_Letter_number) (defScope s_Letter_number) .none kV_Letter_number dc_Letter_number pm_Letter_number an_Letter_number cd_Letter_number ct_Letter_number), sl_Letter_number⟩)
    (l__law_is_int : K.lookup f__law_is_int = some ⟨oc__law_is_int, od__law_is_int, .func (PySem.W.fnOf "_law_is_int" "_law_is_int" (defArgs s__law_is_int) (defBody s__law_is_int) (defScope s__law_is_int) .none kV__law_is_int dc__law_is_int pm__law_is_int an__law_is_int cd__law_is_int ct__law_is_int), sl__law_is_int⟩)
    (l__law_same_rows : K.lookup f__law_same_rows = some ⟨oc__law_same_rows, od__law_same_rows, .func (PySem.W.fnOf "_law_same_rows" "_law_same_rows" (defArgs s__law_same_rows) (defBody s__law_same_rows) (defScope s__law_same_rows) .none kV__law_same_rows dc__law_same_rows pm__law_same_rows an__law_same_rows cd__law_same_rows ct__law_same_rows), sl__law_same_rows⟩)
    (l__law_same_letter : K.lookup f__law_same_letter = some ⟨oc__law_same_letter, od__law_same_letter, .func (PySem.W.fnOf "_law_same_letter" "_law_same_letter" (defArgs s__law_same_letter) (defBody s__law_same_letter) (defScope s__law_same_letter) .none kV__law_same_letter dc__law_same_letter pm__law_same_letter an__law_same_letter cd__law_same_letter ct__law_same_letter), sl__law_same_letter⟩)
    (l__law_same_bytes : K.lookup f__law_same_bytes = some ⟨oc__law_same_bytes, od__law_same_bytes, .func (PySem.W.fnOf "_law_same_bytes" "_law_same_bytes" (defArgs s__law_same_bytes) (defBody s__law_same_bytes) (defScope s__law_same_bytes) .none kV__law_same_bytes dc__law_same_bytes pm__law_same_bytes an__law_same_bytes cd__law_same_bytes ct__law_same_bytes), sl__law_same_bytes⟩)
    (l__law_digits : K.lookup f__law_digits = some ⟨oc__law_digits, od__law_digits, .func (PySem.W.fnOf "_law_digits" "_law_digits" (defArgs s__law_digits) (defBody s__law_digits) (defScope s__law_digits) .none kV__law_digits dc__law_digits pm__law_digits an__law_digits cd__law_digits ct__law_digits), sl__law_digits⟩)
    (l_pack : K.lookup f_pack = some ⟨oc_pack, od_pack, .func (PySem.W.fnOf "pack" "pack" (defArgs s_pack) (defBody s_pack) (defScope s_pack) .none kV_pack dc_pack pm_pack an_pack cd_pack ct_pack), sl_pack⟩)
    (l_law : K.lookup f_law = some ⟨oc_law, od_law, .func (PySem.W.fnOf "law" "law" (defArgs s_law) (defBody s_law) (defScope s_law) .none kV_law dc_law pm_law an_law cd_law ct_law), sl_law⟩)
    (z_all : PySem.W.nsIn K mainGlobals "all" = some none)
    (z_bool : PySem.W.nsIn K mainGlobals "bool" = some none)
    (z_int : PySem.W.nsIn K mainGlobals "int" = some none)
    (z_isinstance : PySem.W.nsIn K mainGlobals "isinstance" = some none)
    (z_len : PySem.W.nsIn K mainGlobals "len" = some none)
    (z_list : PySem.W.nsIn K mainGlobals "list" = some none)
    (z_ord : PySem.W.nsIn K mainGlobals "ord" = some none)
    (z_range : PySem.W.nsIn K mainGlobals "range" = some none)
    (z_str : PySem.W.nsIn K mainGlobals "str" = some none)
    (z_tuple : PySem.W.nsIn K mainGlobals "tuple" = some none)
    (kp_Letter : PySem.W.keepIn K (.ref C_Letter) = true)
    (pg_Letter : PySem.W.plainGet K C_Letter Str.empty = true)
    (ic_Letter : PySem.W.isClsIn K C_Letter = true)
    (po_Letter : PySem.W.plainOver K C_Letter = true)
    (sa_Letter : PySem.W.findIn K (.ref C_Letter) "__setattr__" = some (some (.builtin "object.__setattr__")))
    (mk_Letter : PySem.W.makesIn K C_Letter = true)
    (slg_Letter_counts : PySem.W.specialIn K (.ref p_Letter_counts) "__get__" = some (some (.builtin "member_descriptor.__get__")))
    (slk_Letter_counts : PySem.W.takesIn K (.ref p_Letter_counts) = some true)
    (sly_Letter_counts : PySem.W.typeIn K (.ref p_Letter_counts) = some (.type "member_descriptor"))
    (slx_Letter_counts : PySem.W.slotIn K p_Letter_counts C_Letter = some 0)
    (slg_Letter_key : PySem.W.specialIn K (.ref p_Letter_key) "__get__" = some (some (.builtin "member_descriptor.__get__")))
    (slk_Letter_key : PySem.W.takesIn K (.ref p_Letter_key) = some true)
    (sly_Letter_key : PySem.W.typeIn K (.ref p_Letter_key) = some (.type "member_descriptor"))
    (slx_Letter_key : PySem.W.slotIn K p_Letter_key C_Letter = some 1)
    (slg_Letter_sender : PySem.W.specialIn K (.ref p_Letter_sender) "__get__" = some (some (.builtin "member_descriptor.__get__")))
    (slk_Letter_sender : PySem.W.takesIn K (.ref p_Letter_sender) = some true)
    (sly_Letter_sender : PySem.W.typeIn K (.ref p_Letter_sender) = some (.type "member_descriptor"))
    (slx_Letter_sender : PySem.W.slotIn K p_Letter_sender C_Letter = some 2)
    (slg_Letter_taker : PySem.W.specialIn K (.ref p_Letter_taker) "__get__" = some (some (.builtin "member_descriptor.__get__")))
    (slk_Letter_taker : PySem.W.takesIn K (.ref p_Letter_taker) = some true)
    (sly_Letter_taker : PySem.W.typeIn K (.ref p_Letter_taker) = some (.type "member_descriptor"))
    (slx_Letter_taker : PySem.W.slotIn K p_Letter_taker C_Letter = some 3)
    (slg_Letter_value : PySem.W.specialIn K (.ref p_Letter_value) "__get__" = some (some (.builtin "member_descriptor.__get__")))
    (slk_Letter_value : PySem.W.takesIn K (.ref p_Letter_value) = some true)
    (sly_Letter_value : PySem.W.typeIn K (.ref p_Letter_value) = some (.type "member_descriptor"))
    (slx_Letter_value : PySem.W.slotIn K p_Letter_value C_Letter = some 4)
    (ppg_Letter_number : PySem.W.specialIn K (.ref pr_Letter_number) "__get__" = some (some (.builtin "property.__get__")))
    (ppk_Letter_number : PySem.W.takesIn K (.ref pr_Letter_number) = some true)
    (cc__law_numbers : PySem.W.codeIn K cd__law_numbers "_law_numbers" = true)
    (kk__law_numbers : PySem.W.keepIn K (.ref f__law_numbers) = true)
    (cc__law_row : PySem.W.codeIn K cd__law_row "_law_row" = true)
    (kk__law_row : PySem.W.keepIn K (.ref f__law_row) = true)
    (cc__law_rows : PySem.W.codeIn K cd__law_rows "_law_rows" = true)
    (kk__law_rows : PySem.W.keepIn K (.ref f__law_rows) = true)
    (cc__law_cell : PySem.W.codeIn K cd__law_cell "_law_cell" = true)
    (kk__law_cell : PySem.W.keepIn K (.ref f__law_cell) = true)
    (cc__law_known : PySem.W.codeIn K cd__law_known "_law_known" = true)
    (kk__law_known : PySem.W.keepIn K (.ref f__law_known) = true)
    (cc__law_triples : PySem.W.codeIn K cd__law_triples "_law_triples" = true)
    (kk__law_triples : PySem.W.keepIn K (.ref f__law_triples) = true)
    (cc__law_counts : PySem.W.codeIn K cd__law_counts "_law_counts" = true)
    (kk__law_counts : PySem.W.keepIn K (.ref f__law_counts) = true)
    (cc__law_lines : PySem.W.codeIn K cd__law_lines "_law_lines" = true)
    (kk__law_lines : PySem.W.keepIn K (.ref f__law_lines) = true)
    (cc__law_carried : PySem.W.codeIn K cd__law_carried "_law_carried" = true)
    (kk__law_carried : PySem.W.keepIn K (.ref f__law_carried) = true)
    (cc__law_letter : PySem.W.codeIn K cd__law_letter "_law_letter" = true)
    (kk__law_letter : PySem.W.keepIn K (.ref f__law_letter) = true)
    (cc_Letter___init__ : PySem.W.codeIn K cd_Letter___init__ "Letter.__init__" = true)
    (kk_Letter___init__ : PySem.W.keepIn K (.ref f_Letter___init__) = true)
    (mf_Letter___init__ : PySem.W.isFn K (.ref f_Letter___init__) = true)
    (cc_Letter_number : PySem.W.codeIn K cd_Letter_number "Letter.number" = true)
    (kk_Letter_number : PySem.W.keepIn K (.ref f_Letter_number) = true)
    (cc__law_is_int : PySem.W.codeIn K cd__law_is_int "_law_is_int" = true)
    (kk__law_is_int : PySem.W.keepIn K (.ref f__law_is_int) = true)
    (cc__law_same_rows : PySem.W.codeIn K cd__law_same_rows "_law_same_rows" = true)
    (kk__law_same_rows : PySem.W.keepIn K (.ref f__law_same_rows) = true)
    (cc__law_same_letter : PySem.W.codeIn K cd__law_same_letter "_law_same_letter" = true)
    (kk__law_same_letter : PySem.W.keepIn K (.ref f__law_same_letter) = true)
    (cc__law_same_bytes : PySem.W.codeIn K cd__law_same_bytes "_law_same_bytes" = true)
    (kk__law_same_bytes : PySem.W.keepIn K (.ref f__law_same_bytes) = true)
    (cc__law_digits : PySem.W.codeIn K cd__law_digits "_law_digits" = true)
    (kk__law_digits : PySem.W.keepIn K (.ref f__law_digits) = true)
    (cc_pack : PySem.W.codeIn K cd_pack "pack" = true)
    (kk_pack : PySem.W.keepIn K (.ref f_pack) = true)
    (cc_law : PySem.W.codeIn K cd_law "law" = true)
    (kk_law : PySem.W.keepIn K (.ref f_law) = true)
    : ∃ fd : FuncData, (∀ (s : Shared) (v : Value), BindsTo s fd ⟨[v], []⟩ [("_law_script", v)]) ∧ ∀ base : Heap, K.In base → base.Ns mainGlobals mg → FnOk l.prog w K mg base (L2.CX l.prog w) 4 fa fd ["_law_script"] (spLaw K) := by
  have e : f_law = fa := (Value.ref.inj (Option.some.inj (hfa.symm.trans (PySem.W.mg_of X G a_law)))).symm
  subst e
  let T : Tx K mg := {
    C_Letter := C_Letter
    f__law_numbers := f__law_numbers
    f__law_row := f__law_row
    f__law_rows := f__law_rows
    f__law_cell := f__law_cell
    f__law_known := f__law_known
    f__law_triples := f__law_triples
    f__law_counts := f__law_counts
    f__law_lines := f__law_lines
    f__law_carried := f__law_carried
    f__law_letter := f__law_letter
    f_Letter___init__ := f_Letter___init__
    f_Letter_number := f_Letter_number
    f__law_is_int := f__law_is_int
    f__law_same_rows := f__law_same_rows
    f__law_same_letter := f__law_same_letter
    f__law_same_bytes := f__law_same_bytes
    f__law_digits := f__law_digits
    f_pack := f_pack
    f_law := f_law
    fd__law_numbers := PySem.W.fnOf "_law_numbers" "_law_numbers" (defArgs s__law_numbers) (defBody s__law_numbers) (defScope s__law_numbers) .none kV__law_numbers dc__law_numbers pm__law_numbers an__law_numbers cd__law_numbers ct__law_numbers
    fd__law_row := PySem.W.fnOf "_law_row" "_law_row" (defArgs s__law_row) (defBody s__law_row) (defScope s__law_row) .none kV__law_row dc__law_row pm__law_row an__law_row cd__law_row ct__law_row
    fd__law_rows := PySem.W.fnOf "_law_rows" "_law_rows" (defArgs s__law_rows) (defBody s__law_rows) (defScope s__law_rows) .none kV__law_rows dc__law_rows pm__law_rows an__law_rows cd__law_rows ct__law_rows
    fd__law_cell := PySem.W.fnOf "_law_cell" "_law_cell" (defArgs s__law_cell) (defBody s__law_cell) (defScope s__law_cell) .none kV__law_cell dc__law_cell pm__law_cell an__law_cell cd__law_cell ct__law_cell
    fd__law_known := PySem.W.fnOf "_law_known" "_law_known" (defArgs s__law_known) (defBody s__law_known) (defScope s__law_known) .none kV__law_known dc__law_known pm__law_known an__law_known cd__law_known ct__law_known
    fd__law_triples := PySem.W.fnOf "_law_triples" "_law_triples" (defArgs s__law_triples) (defBody s__law_triples) (defScope s__law_triples) .none kV__law_triples dc__law_triples pm__law_triples an__law_triples cd__law_triples ct__law_triples
    fd__law_counts := PySem.W.fnOf "_law_counts" "_law_counts" (defArgs s__law_counts) (defBody s__law_counts) (defScope s__law_counts) .none kV__law_counts dc__law_counts pm__law_counts an__law_counts cd__law_counts ct__law_counts
    fd__law_lines := PySem.W.fnOf "_law_lines" "_law_lines" (defArgs s__law_lines) (defBody s__law_lines) (defScope s__law_lines) .none kV__law_lines dc__law_lines pm__law_lines an__law_lines cd__law_lines ct__law_lines
    fd__law_carried := PySem.W.fnOf "_law_carried" "_law_carried" (defArgs s__law_carried) (defBody s__law_carried) (defScope s__law_carried) .none kV__law_carried dc__law_carried pm__law_carried an__law_carried cd__law_carried ct__law_carried
    fd__law_letter := PySem.W.fnOf "_law_letter" "_law_letter" (defArgs s__law_letter) (defBody s__law_letter) (defScope s__law_letter) .none kV__law_letter dc__law_letter pm__law_letter an__law_letter cd__law_letter ct__law_letter
    fd_Letter___init__ := PySem.W.fnOf "__init__" "Letter.__init__" (defArgs s_Letter___init__) (defBody s_Letter___init__) (defScope s_Letter___init__) .none kV_Letter___init__ dc_Letter___init__ pm_Letter___init__ an_Letter___init__ cd_Letter___init__ ct_Letter___init__
    fd_Letter_number := PySem.W.fnOf "number" "Letter.number" (defArgs s_Letter_number) (defBody s_Letter_number) (defScope s_Letter_number) .none kV_Letter_number dc_Letter_number pm_Letter_number an_Letter_number cd_Letter_number ct_Letter_number
    fd__law_is_int := PySem.W.fnOf "_law_is_int" "_law_is_int" (defArgs s__law_is_int) (defBody s__law_is_int) (defScope s__law_is_int) .none kV__law_is_int dc__law_is_int pm__law_is_int an__law_is_int cd__law_is_int ct__law_is_int
    fd__law_same_rows := PySem.W.fnOf "_law_same_rows" "_law_same_rows" (defArgs s__law_same_rows) (defBody s__law_same_rows) (defScope s__law_same_rows) .none kV__law_same_rows dc__law_same_rows pm__law_same_rows an__law_same_rows cd__law_same_rows ct__law_same_rows
    fd__law_same_letter := PySem.W.fnOf "_law_same_letter" "_law_same_letter" (defArgs s__law_same_letter) (defBody s__law_same_letter) (defScope s__law_same_letter) .none kV__law_same_letter dc__law_same_letter pm__law_same_letter an__law_same_letter cd__law_same_letter ct__law_same_letter
    fd__law_same_bytes := PySem.W.fnOf "_law_same_bytes" "_law_same_bytes" (defArgs s__law_same_bytes) (defBody s__law_same_bytes) (defScope s__law_same_bytes) .none kV__law_same_bytes dc__law_same_bytes pm__law_same_bytes an__law_same_bytes cd__law_same_bytes ct__law_same_bytes
    fd__law_digits := PySem.W.fnOf "_law_digits" "_law_digits" (defArgs s__law_digits) (defBody s__law_digits) (defScope s__law_digits) .none kV__law_digits dc__law_digits pm__law_digits an__law_digits cd__law_digits ct__law_digits
    fd_pack := PySem.W.fnOf "pack" "pack" (defArgs s_pack) (defBody s_pack) (defScope s_pack) .none kV_pack dc_pack pm_pack an_pack cd_pack ct_pack
    fd_law := PySem.W.fnOf "law" "law" (defArgs s_law) (defBody s_law) (defScope s_law) .none kV_law dc_law pm_law an_law cd_law ct_law
    pr_Letter_number := pr_Letter_number
    n_all := PySem.W.mg_none_of X G z_all
    n_bool := PySem.W.mg_none_of X G z_bool
    n_int := PySem.W.mg_none_of X G z_int
    n_isinstance := PySem.W.mg_none_of X G z_isinstance
    n_len := PySem.W.mg_none_of X G z_len
    n_list := PySem.W.mg_none_of X G z_list
    n_ord := PySem.W.mg_none_of X G z_ord
    n_range := PySem.W.mg_none_of X G z_range
    n_str := PySem.W.mg_none_of X G z_str
    n_tuple := PySem.W.mg_none_of X G z_tuple
    c_Letter := PySem.W.mg_of X G aC_Letter
    kp_Letter := kp_Letter
    sc_Letter := ⟨pg_Letter, ic_Letter, po_Letter, sa_Letter⟩
    mk_Letter := mk_Letter
    sl5_Letter := ⟨⟨pg_Letter, ic_Letter, po_Letter, sa_Letter⟩, ⟨_, ⟨sla_Letter_sender, slg_Letter_sender, slk_Letter_sender, sly_Letter_sender, slx_Letter_sender, by decide⟩⟩, ⟨_, ⟨sla_Letter_taker, slg_Letter_taker, slk_Letter_taker, sly_Letter_taker, slx_Letter_taker, by decide⟩⟩, ⟨_, ⟨sla_Letter_key, slg_Letter_key, slk_Letter_key, sly_Letter_key, slx_Letter_key, by decide⟩⟩, ⟨_, ⟨sla_Letter_value, slg_Letter_value, slk_Letter_value, sly_Letter_value, slx_Letter_value, by decide⟩⟩, ⟨_, ⟨sla_Letter_counts, slg_Letter_counts, slk_Letter_counts, sly_Letter_counts, slx_Letter_counts, by decide⟩⟩⟩
    sl_counts := SlN.cons (PySem.W.mg_of X G aC_Letter) ⟨pg_Letter, ic_Letter, po_Letter, sa_Letter⟩ ⟨sla_Letter_counts, slg_Letter_counts, slk_Letter_counts, sly_Letter_counts, slx_Letter_counts, by decide⟩ SlN.nil
    sl_key := SlN.cons (PySem.W.mg_of X G aC_Letter) ⟨pg_Letter, ic_Letter, po_Letter, sa_Letter⟩ ⟨sla_Letter_key, slg_Letter_key, slk_Letter_key, sly_Letter_key, slx_Letter_key, by decide⟩ SlN.nil
    sl_sender := SlN.cons (PySem.W.mg_of X G aC_Letter) ⟨pg_Letter, ic_Letter, po_Letter, sa_Letter⟩ ⟨sla_Letter_sender, slg_Letter_sender, slk_Letter_sender, sly_Letter_sender, slx_Letter_sender, by decide⟩ SlN.nil
    sl_taker := SlN.cons (PySem.W.mg_of X G aC_Letter) ⟨pg_Letter, ic_Letter, po_Letter, sa_Letter⟩ ⟨sla_Letter_taker, slg_Letter_taker, slk_Letter_taker, sly_Letter_taker, slx_Letter_taker, by decide⟩ SlN.nil
    sl_value := SlN.cons (PySem.W.mg_of X G aC_Letter) ⟨pg_Letter, ic_Letter, po_Letter, sa_Letter⟩ ⟨sla_Letter_value, slg_Letter_value, slk_Letter_value, sly_Letter_value, slx_Letter_value, by decide⟩ SlN.nil
    pp_Letter_number := ⟨ppa_Letter_number, ppg_Letter_number, ppk_Letter_number, ⟨_, ppr_Letter_number⟩⟩
    ist_bool := (IsTab.ty (kit_ty (by decide +kernel)) (IsTab.ty (kit_ty (by decide +kernel)) (IsTab.ty (kit_ty (by decide +kernel)) (IsTab.ty (kit_ty (by decide +kernel)) (IsTab.ty (kit_ty (by decide +kernel)) (IsTab.ty (kit_ty (by decide +kernel)) (IsTab.ty (kit_ty (by decide +kernel)) (IsTab.ty (kit_ty (by decide +kernel)) IsTab.nil))))))))
    ist_int := (IsTab.ty (kit_ty (by decide +kernel)) (IsTab.ty (kit_ty (by decide +kernel)) (IsTab.ty (kit_ty (by decide +kernel)) (IsTab.ty (kit_ty (by decide +kernel)) (IsTab.ty (kit_ty (by decide +kernel)) (IsTab.ty (kit_ty (by decide +kernel)) (IsTab.ty (kit_ty (by decide +kernel)) (IsTab.ty (kit_ty (by decide +kernel)) IsTab.nil))))))))
    ist_list := (IsTab.ty (kit_ty (by decide +kernel)) (IsTab.ty (kit_ty (by decide +kernel)) (IsTab.ty (kit_ty (by decide +kernel)) (IsTab.ty (kit_ty (by decide +kernel)) (IsTab.ty (kit_ty (by decide +kernel)) (IsTab.ty (kit_ty (by decide +kernel)) (IsTab.ty (kit_ty (by decide +kernel)) (IsTab.ty (kit_ty (by decide +kernel)) IsTab.nil))))))))
    ist_str := (IsTab.ty (kit_ty (by decide +kernel)) (IsTab.ty (kit_ty (by decide +kernel)) (IsTab.ty (kit_ty (by decide +kernel)) (IsTab.ty (kit_ty (by decide +kernel)) (IsTab.ty (kit_ty (by decide +kernel)) (IsTab.ty (kit_ty (by decide +kernel)) (IsTab.ty (kit_ty (by decide +kernel)) (IsTab.ty (kit_ty (by decide +kernel)) IsTab.nil))))))))
    ist_tuple := (IsTab.ty (kit_ty (by decide +kernel)) (IsTab.ty (kit_ty (by decide +kernel)) (IsTab.ty (kit_ty (by decide +kernel)) (IsTab.ty (kit_ty (by decide +kernel)) (IsTab.ty (kit_ty (by decide +kernel)) (IsTab.ty (kit_ty (by decide +kernel)) (IsTab.ty (kit_ty (by decide +kernel)) (IsTab.ty (kit_ty (by decide +kernel)) IsTab.nil))))))))
    F__law_numbers := fun_mk l__law_numbers cc__law_numbers kk__law_numbers
    b__law_numbers := (fun_mk (st := s__law_numbers) l__law_numbers cc__law_numbers kk__law_numbers).binds fun _ _ _ _ _ _ us hl => match us, hl with | [_, _, _], _ => rfl
    g__law_numbers := PySem.W.mg_of X G a__law_numbers
    F__law_row := fun_mk l__law_row cc__law_row kk__law_row
    b__law_row := (fun_mk (st := s__law_row) l__law_row cc__law_row kk__law_row).binds fun _ _ _ _ _ _ us hl => match us, hl with | [_, _, _, _], _ => rfl
    g__law_row := PySem.W.mg_of X G a__law_row
    F__law_rows := fun_mk l__law_rows cc__law_rows kk__law_rows
    b__law_rows := (fun_mk (st := s__law_rows) l__law_rows cc__law_rows kk__law_rows).binds fun _ _ _ _ _ _ us hl => match us, hl with | [_, _, _], _ => rfl
    g__law_rows := PySem.W.mg_of X G a__law_rows
    F__law_cell := fun_mk l__law_cell cc__law_cell kk__law_cell
    b__law_cell := (fun_mk (st := s__law_cell) l__law_cell cc__law_cell kk__law_cell).binds fun _ _ _ _ _ _ us hl => match us, hl with | [_, _], _ => rfl
    g__law_cell := PySem.W.mg_of X G a__law_cell
    F__law_known := fun_mk l__law_known cc__law_known kk__law_known
    b__law_known := (fun_mk (st := s__law_known) l__law_known cc__law_known kk__law_known).binds fun _ _ _ _ _ _ us hl => match us, hl with | [_], _ => rfl
    g__law_known := PySem.W.mg_of X G a__law_known
    F__law_triples := fun_mk l__law_triples cc__law_triples kk__law_triples
    b__law_triples := (fun_mk (st := s__law_triples) l__law_triples cc__law_triples kk__law_triples).binds fun _ _ _ _ _ _ us hl => match us, hl with | [_], _ => rfl
    g__law_triples := PySem.W.mg_of X G a__law_triples
    F__law_counts := fun_mk l__law_counts cc__law_counts kk__law_counts
    b__law_counts := (fun_mk (st := s__law_counts) l__law_counts cc__law_counts kk__law_counts).binds fun _ _ _ _ _ _ us hl => match us, hl with | [_, _], _ => rfl
    g__law_counts := PySem.W.mg_of X G a__law_counts
    F__law_lines := fun_mk l__law_lines cc__law_lines kk__law_lines
    b__law_lines := (fun_mk (st := s__law_lines) l__law_lines cc__law_lines kk__law_lines).binds fun _ _ _ _ _ _ us hl => match us, hl with | [_], _ => rfl
    g__law_lines := PySem.W.mg_of X G a__law_lines
    F__law_carried := fun_mk l__law_carried cc__law_carried kk__law_carried
    b__law_carried := (fun_mk (st := s__law_carried) l__law_carried cc__law_carried kk__law_carried).binds fun _ _ _ _ _ _ us hl => match us, hl with | [_, _, _, _], _ => rfl
    g__law_carried := PySem.W.mg_of X G a__law_carried
    F__law_letter := fun_mk l__law_letter cc__law_letter kk__law_letter
    b__law_letter := (fun_mk (st := s__law_letter) l__law_letter cc__law_letter kk__law_letter).binds fun _ _ _ _ _ _ us hl => match us, hl with | [_, _, _], _ => rfl
    g__law_letter := PySem.W.mg_of X G a__law_letter
    F_Letter___init__ := fun_mk l_Letter___init__ cc_Letter___init__ kk_Letter___init__
    b_Letter___init__ := (fun_mk (st := s_Letter___init__) l_Letter___init__ cc_Letter___init__ kk_Letter___init__).binds fun _ _ _ _ _ _ us hl => match us, hl with | [_, _, _, _, _, _], _ => rfl
    mt_Letter___init__ := ⟨ma_Letter___init__, mf_Letter___init__, kk_Letter___init__⟩
    F_Letter_number := fun_mk l_Letter_number cc_Letter_number kk_Letter_number
    b_Letter_number := (fun_mk (st := s_Letter_number) l_Letter_number cc_Letter_number kk_Letter_number).binds fun _ _ _ _ _ _ us hl => match us, hl with | [_], _ => rfl
    F__law_is_int := fun_mk l__law_is_int cc__law_is_int kk__law_is_int
    b__law_is_int := (fun_mk (st := s__law_is_int) l__law_is_int cc__law_is_int kk__law_is_int).binds fun _ _ _ _ _ _ us hl => match us, hl with | [_], _ => rfl
    g__law_is_int := PySem.W.mg_of X G a__law_is_int
    F__law_same_rows := fun_mk l__law_same_rows cc__law_same_rows kk__law_same_rows
    b__law_same_rows := (fun_mk (st := s__law_same_rows) l__law_same_rows cc__law_same_rows kk__law_same_rows).binds fun _ _ _ _ _ _ us hl => match us, hl with | [_, _], _ => rfl
    g__law_same_rows := PySem.W.mg_of X G a__law_same_rows
    F__law_same_letter := fun_mk l__law_same_letter cc__law_same_letter kk__law_same_letter
    b__law_same_letter := (fun_mk (st := s__law_same_letter) l__law_same_letter cc__law_same_letter kk__law_same_letter).binds fun _ _ _ _ _ _ us hl => match us, hl with | [_, _], _ => rfl
    g__law_same_letter := PySem.W.mg_of X G a__law_same_letter
    F__law_same_bytes := fun_mk l__law_same_bytes cc__law_same_bytes kk__law_same_bytes
    b__law_same_bytes := (fun_mk (st := s__law_same_bytes) l__law_same_bytes cc__law_same_bytes kk__law_same_bytes).binds fun _ _ _ _ _ _ us hl => match us, hl with | [_, _], _ => rfl
    g__law_same_bytes := PySem.W.mg_of X G a__law_same_bytes
    F__law_digits := fun_mk l__law_digits cc__law_digits kk__law_digits
    b__law_digits := (fun_mk (st := s__law_digits) l__law_digits cc__law_digits kk__law_digits).binds fun _ _ _ _ _ _ us hl => match us, hl with | [_], _ => rfl
    g__law_digits := PySem.W.mg_of X G a__law_digits
    F_pack := fun_mk l_pack cc_pack kk_pack
    b_pack := (fun_mk (st := s_pack) l_pack cc_pack kk_pack).binds fun _ _ _ _ _ _ us hl => match us, hl with | [_], _ => rfl
    g_pack := PySem.W.mg_of X G a_pack
    F_law := fun_mk l_law cc_law kk_law
    b_law := (fun_mk (st := s_law) l_law cc_law kk_law).binds fun _ _ _ _ _ _ us hl => match us, hl with | [_], _ => rfl
  }
  exact ⟨PySem.W.fnOf "law" "law" (defArgs s_law) (defBody s_law) (defScope s_law) .none kV_law dc_law pm_law an_law cd_law ct_law, fun s v => .of_eq rfl, fun base _ _ => law_end (ok_law T) says⟩
end Z
open PySem PySem.W PyProof.Rows
set_option maxRecDepth 100000 in
set_option maxHeartbeats 0 in
theorem PySem.Challenge.cw_partkeepers_k10_packed_letters_holds : PySem.Challenge.rw_partkeepers_k10_packed_letters.Holds := by
  w_on; o_law; k_head
  case hw => w_witness2
  k_fill
  refine Z.walkZ (l := PySem.Challenge.rw_partkeepers_k10_packed_letters) (k := 4) (x := "_law_script") rfl rfl ⟨rfl, by decide, by decide⟩ (fun w h Y => PySem.W.kIn_of Y) ?F
  case F =>
    intro w mg fa h KX G hmg
    refine' Z.all_mk KX G hmg ?aC_Letter ?sla_Letter_counts ?sla_Letter_key ?sla_Letter_sender ?sla_Letter_taker ?sla_Letter_value ?ppa_Letter_number ?a__law_numbers ?a__law_row ?a__law_rows ?a__law_cell ?a__law_known ?a__law_triples ?a__law_counts ?a__law_lines ?a__law_carried ?a__law_letter ?ma_Letter___init__ ?a__law_is_int ?a__law_same_rows ?a__law_same_letter ?a__law_same_bytes ?a__law_digits ?a_pack ?a_law ?ppr_Letter_number ?l__law_numbers ?l__law_row ?l__law_rows ?l__law_cell ?l__law_known ?l__law_triples ?l__law_counts ?l__law_lines ?l__law_carried ?l__law_letter ?l_Letter___init__ ?l_Letter_number ?l__law_is_int ?l__law_same_rows ?l__law_same_letter ?l__law_same_bytes ?l__law_digits ?l_pack ?l_law ?z_all ?z_bool ?z_int ?z_isinstance ?z_len ?z_list ?z_ord ?z_range ?z_str ?z_tuple ?kp_Letter ?pg_Letter ?ic_Letter ?po_Letter ?sa_Letter ?mk_Letter ?slg_Letter_counts ?slk_Letter_counts ?sly_Letter_counts ?slx_Letter_counts ?slg_Letter_key ?slk_Letter_key ?sly_Letter_key ?slx_Letter_key ?slg_Letter_sender ?slk_Letter_sender ?sly_Letter_sender ?slx_Letter_sender ?slg_Letter_taker ?slk_Letter_taker ?sly_Letter_taker ?slx_Letter_taker ?slg_Letter_value ?slk_Letter_value ?sly_Letter_value ?slx_Letter_value ?ppg_Letter_number ?ppk_Letter_number ?cc__law_numbers ?kk__law_numbers ?cc__law_row ?kk__law_row ?cc__law_rows ?kk__law_rows ?cc__law_cell ?kk__law_cell ?cc__law_known ?kk__law_known ?cc__law_triples ?kk__law_triples ?cc__law_counts ?kk__law_counts ?cc__law_lines ?kk__law_lines ?cc__law_carried ?kk__law_carried ?cc__law_letter ?kk__law_letter ?cc_Letter___init__ ?kk_Letter___init__ ?mf_Letter___init__ ?cc_Letter_number ?kk_Letter_number ?cc__law_is_int ?kk__law_is_int ?cc__law_same_rows ?kk__law_same_rows ?cc__law_same_letter ?kk__law_same_letter ?cc__law_same_bytes ?kk__law_same_bytes ?cc__law_digits ?kk__law_digits ?cc_pack ?kk_pack ?cc_law ?kk_law
    (case aC_Letter => k_is)
    (case sla_Letter_counts => k_is)
    (case sla_Letter_key => k_is)
    (case sla_Letter_sender => k_is)
    (case sla_Letter_taker => k_is)
    (case sla_Letter_value => k_is)
    (case ppa_Letter_number => k_is)
    (case a__law_numbers => k_is)
    (case a__law_row => k_is)
    (case a__law_rows => k_is)
    (case a__law_cell => k_is)
    (case a__law_known => k_is)
    (case a__law_triples => k_is)
    (case a__law_counts => k_is)
    (case a__law_lines => k_is)
    (case a__law_carried => k_is)
    (case a__law_letter => k_is)
    (case ma_Letter___init__ => k_is)
    (case a__law_is_int => k_is)
    (case a__law_same_rows => k_is)
    (case a__law_same_letter => k_is)
    (case a__law_same_bytes => k_is)
    (case a__law_digits => k_is)
    (case a_pack => k_is)
    (case a_law => k_is)
    (case ppr_Letter_number => k_is)
    (case l__law_numbers => k_is)
    (case l__law_row => k_is)
    (case l__law_rows => k_is)
    (case l__law_cell => k_is)
    (case l__law_known => k_is)
    (case l__law_triples => k_is)
    (case l__law_counts => k_is)
    (case l__law_lines => k_is)
    (case l__law_carried => k_is)
    (case l__law_letter => k_is)
    (case l_Letter___init__ => k_is)
    (case l_Letter_number => k_is)
    (case l__law_is_int => k_is)
    (case l__law_same_rows => k_is)
    (case l__law_same_letter => k_is)
    (case l__law_same_bytes => k_is)
    (case l__law_digits => k_is)
    (case l_pack => k_is)
    (case l_law => k_is)
    (case z_all => k_is)
    (case z_bool => k_is)
    (case z_int => k_is)
    (case z_isinstance => k_is)
    (case z_len => k_is)
    (case z_list => k_is)
    (case z_ord => k_is)
    (case z_range => k_is)
    (case z_str => k_is)
    (case z_tuple => k_is)
    (case kp_Letter => k_is)
    (case pg_Letter => k_is)
    (case ic_Letter => k_is)
    (case po_Letter => k_is)
    (case sa_Letter => k_is)
    (case mk_Letter => k_is)
    (case slg_Letter_counts => k_is)
    (case slk_Letter_counts => k_is)
    (case sly_Letter_counts => k_is)
    (case slx_Letter_counts => k_is)
    (case slg_Letter_key => k_is)
    (case slk_Letter_key => k_is)
    (case sly_Letter_key => k_is)
    (case slx_Letter_key => k_is)
    (case slg_Letter_sender => k_is)
    (case slk_Letter_sender => k_is)
    (case sly_Letter_sender => k_is)
    (case slx_Letter_sender => k_is)
    (case slg_Letter_taker => k_is)
    (case slk_Letter_taker => k_is)
    (case sly_Letter_taker => k_is)
    (case slx_Letter_taker => k_is)
    (case slg_Letter_value => k_is)
    (case slk_Letter_value => k_is)
    (case sly_Letter_value => k_is)
    (case slx_Letter_value => k_is)
    (case ppg_Letter_number => k_is)
    (case ppk_Letter_number => k_is)
    (case cc__law_numbers => k_is)
    (case kk__law_numbers => k_is)
    (case cc__law_row => k_is)
    (case kk__law_row => k_is)
    (case cc__law_rows => k_is)
    (case kk__law_rows => k_is)
    (case cc__law_cell => k_is)
    (case kk__law_cell => k_is)
    (case cc__law_known => k_is)
    (case kk__law_known => k_is)
    (case cc__law_triples => k_is)
    (case kk__law_triples => k_is)
    (case cc__law_counts => k_is)
    (case kk__law_counts => k_is)
    (case cc__law_lines => k_is)
    (case kk__law_lines => k_is)
    (case cc__law_carried => k_is)
    (case kk__law_carried => k_is)
    (case cc__law_letter => k_is)
    (case kk__law_letter => k_is)
    (case cc_Letter___init__ => k_is)
    (case kk_Letter___init__ => k_is)
    (case mf_Letter___init__ => k_is)
    (case cc_Letter_number => k_is)
    (case kk_Letter_number => k_is)
    (case cc__law_is_int => k_is)
    (case kk__law_is_int => k_is)
    (case cc__law_same_rows => k_is)
    (case kk__law_same_rows => k_is)
    (case cc__law_same_letter => k_is)
    (case kk__law_same_letter => k_is)
    (case cc__law_same_bytes => k_is)
    (case kk__law_same_bytes => k_is)
    (case cc__law_digits => k_is)
    (case kk__law_digits => k_is)
    (case cc_pack => k_is)
    (case kk_pack => k_is)
    (case cc_law => k_is)
    (case kk_law => k_is)

