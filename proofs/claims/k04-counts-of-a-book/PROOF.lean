import PyProof.Rows.All
import HandS.ExcCtx
import HandS.HotCalls
import HandS.SuiteRaise
import Wide.All
import OpenK.AllK
import Wide.FinOn
import HandS.ForMost
import HandS.Exc
import HandS.ExcOwn
import HandS.WordsExc
import HandS.CallSlots
import HandS.Wide
import HandS.Slots
import HandS.TupAny
import HandS.Deep
import HandS.TupLe
import HandS.ExcInit
import HandS.ExcField
import HandS.ExcIs
import HandS.TryMany
import HandS.More
import HandS.SetFor
import HandS.Small
import HandS.Text
import HandS.IsInst
import HandS.Codes
import KE.KExcIs
import HandS.OwnEq
import HandS.IterNext
import HandS.IterVal
import HandS.OwnIter
import HandS.Finally
import HandS.ExcInitHot
import HandS.EndBits
import HandS.Conv
import HandS.DictComp
import HandS.Iter
import HandS.TupLen
import KE.KEqDict
import HandS.ExcValue
import KE.KDictWalk
import HandS.Defaults
import HandS.Lambda
import HandS.FStr
import PyProof.FString3
import PyProof.Rows.StrIntSpec
import KE.KStrBytes
import HandS.Bytes
import HandS.StrMore
import HandS.SlotsOwn
import HandS.Property
import KE.KBytesDec
import KE.KBytesMap
import Wide.BytesFacts
import KE.IntTextLaws
import KE.KBytesCut
import HandS.Style
import KE.KDictCopyH
import KE.KDictOf
import HandS.Flow
import KE.KExcRaise
import KE.KSuper
import HandS.ClsMeth
import KE.KStateDown
import HandS.Head0
import HandS.Head1
import HandS.Head2
import HandS.HeadEnd
import HandS.HeadHook1
import HandS.GenList
import HandS.TupSets
import PyProof.CollectIter
import HandS.Hot
import PyProof.TupleIter
import HandS.Comp
import PySem.Challenge.RW_partkeepers_k04_counts_of_a_book
set_option Elab.async false
set_option linter.all false
set_option maxRecDepth 100000
namespace Z
open PySem PySem.Spec PyProof.Rows
open L2 hiding XE Takes CX takes_of passes_call passAt MkP PMk ps_raise mk_of ps_try_as ps_try_many pmk_own Takes.imp
open L2N
inductive W where
  | non
  | bl (b : Bool)
  | int (i : Int)
  | str (x : Str)
  | byt (b : Array UInt8)
  | tup (ws : List W)
  | lst (ws : List W)
  | frl (ws : List W)
  | dK (kvs : List (Key × W))
  | dT (kvs : List (List Key × W))
  | dF (kvs : List (List Key × W))
  | obj (nm : Str) (fs : List (Str × W))
  | slt (nm : Str) (ws : List W)
  | ref (n : Nat)
instance : Inhabited W := ⟨.non⟩
inductive Cell where
  | lst (ws : List W)
  | dK (kvs : List (Key × W))
  | dT (kvs : List (List Key × W))
  | ins (nm : Str) (fs : List (Str × W))
def Cell.toW : Cell → W
  | .lst ws => .lst ws
  | .dK k => .dK k
  | .dT k => .dT k
  | .ins n f => .obj n f
@[simp] theorem toW_lst {ws : List W} : (Cell.lst ws).toW = .lst ws := rfl
@[simp] theorem toW_dK {ws : List (Key × W)} : (Cell.dK ws).toW = .dK ws := rfl
@[simp] theorem toW_dT {ws : List (List Key × W)} : (Cell.dT ws).toW = .dT ws := rfl
@[simp] theorem toW_ins {n : Str} {ws : List (Str × W)} : (Cell.ins n ws).toW = .obj n ws := rfl
structure Ex where
  nm : Str
  fs : List (Str × W)
inductive SV where
  | non
  | val (w : W)
  | own (c : Cell)
  | exc (x : Ex)
structure EA where
  a : Addr
  cls : Value
  d : Option Addr
def ea0 : EA := ⟨0, .none, none⟩
inductive RV where
  | val (w : W)
  | own (c : Cell)
  | hnd (i : Nat)
structure S where
  r : List SV
  G : List Cell
section
variable (K : PySem.W.Frag) (mg : Str → Option Value)
def KT (a : Addr) (vs : List V) : Prop := ∃ (o : Obj) (its : Array Value) (n : Nat), K.lookup a = some o ∧ o.cls = .type "tuple" ∧ o.data = .seq its n ∧ its.size ≤ sizeLine ∧ Vals vs its.toList
def KL (a : Addr) (vs : List V) : Prop := ∃ (o : Obj) (its : Array Value) (n : Nat), K.lookup a = some o ∧ o.cls = .type "list" ∧ o.dict = none ∧ o.data = .seq its n ∧ its.size ≤ sizeLine ∧ Vals vs its.toList
inductive Rw (io : List Addr) (M : Addr → Prop) (H : Hp) : W → V → Prop
  | non : Rw io M H .non .non
  | bl (b : Bool) : Rw io M H (.bl b) (.bl b)
  | int (i : Int) : Rw io M H (.int i) (.int i)
  | str (x : Str) : Rw io M H (.str x) (.str x)
  | byt (b : Array UInt8) : Rw io M H (.byt b) (.byt b)
  | tup {ws : List W} {a : Addr} {vs : List V} : ((H a = some (.tup vs) ∧ ¬ M a) ∨ (KT K a vs ∧ vs = [])) → ws.length = vs.length → (∀ (i : Nat) (w : W) (v : V), ws[i]? = some w → vs[i]? = some v → Rw io M H w v) → Rw io M H (.tup ws) (.ref a)
  | frl {ws : List W} {a : Addr} {vs : List V} : ((Rd H a (.lst vs) ∧ ¬ M a) ∨ KL K a vs) → ws.length = vs.length → (∀ (i : Nat) (w : W) (v : V), ws[i]? = some w → vs[i]? = some v → Rw io M H w v) → Rw io M H (.frl ws) (.ref a)
  | lst {ws : List W} {a : Addr} {vs : List V} : H a = some (.lst vs) → ¬ M a → ws.length = vs.length → (∀ (i : Nat) (w : W) (v : V), ws[i]? = some w → vs[i]? = some v → Rw io M H w v) → Rw io M H (.lst ws) (.ref a)
  | dK {ws : List (Key × W)} {a : Addr} {vs : List (Key × V)} : Rd H a (.dK vs) → ¬ M a → ws.map (·.1) = vs.map (·.1) → (∀ (i : Nat) (w : W) (v : V), (ws.map (·.2))[i]? = some w → (vs.map (·.2))[i]? = some v → Rw io M H w v) → Rw io M H (.dK ws) (.ref a)
  | dT {ws : List (List Key × W)} {a : Addr} {vs : List (List Key × V)} : Rd H a (.dT vs) → ¬ M a → ws.map (·.1) = vs.map (·.1) → (∀ (i : Nat) (w : W) (v : V), (ws.map (·.2))[i]? = some w → (vs.map (·.2))[i]? = some v → Rw io M H w v) → Rw io M H (.dT ws) (.ref a)
  | dF {ws : List (List Key × W)} {a : Addr} {ob : Obj} {vs : List (List Key × V)} : H a = some (.frz ob (.dT vs)) → ¬ M a → ws.map (·.1) = vs.map (·.1) → (∀ (i : Nat) (w : W) (v : V), (ws.map (·.2))[i]? = some w → (vs.map (·.2))[i]? = some v → Rw io M H w v) → Rw io M H (.dF ws) (.ref a)
  | obj {nm : Str} {ws : List (Str × W)} {a C dx : Addr} {vs : List (Str × V)} : mg nm = some (.ref C) → H a = some (.ins C dx vs) → ¬ M a → ws.map (·.1) = vs.map (·.1) → (∀ (i : Nat) (w : W) (v : V), (ws.map (·.2))[i]? = some w → (vs.map (·.2))[i]? = some v → Rw io M H w v) → Rw io M H (.obj nm ws) (.ref a)
  | slt {nm : Str} {ws : List W} {a C dx : Addr} {vs : List V} : mg nm = some (.ref C) → H a = some (SlX.SlO a C dx (vs.map some)) → ¬ M a → H dx = some (.xd []) → ¬ M dx → ws.length = vs.length → (∀ (i : Nat) (w : W) (v : V), ws[i]? = some w → vs[i]? = some v → Rw io M H w v) → Rw io M H (.slt nm ws) (.ref a)
  | ref {n : Nat} {a : Addr} : io[n]? = some a → Rw io M H (.ref n) (.ref a)
def Rws (io : List Addr) (M : Addr → Prop) (H : Hp) (ws : List W) (vs : List V) : Prop :=
  ws.length = vs.length ∧ ∀ (i : Nat) (w : W) (v : V), ws[i]? = some w → vs[i]? = some v → Rw K mg io M H w v
def Rkv {κ : Type} (io : List Addr) (M : Addr → Prop) (H : Hp) (ws : List (κ × W)) (vs : List (κ × V)) : Prop :=
  ws.map (·.1) = vs.map (·.1) ∧ Rws K mg io M H (ws.map (·.2)) (vs.map (·.2))
end
section
variable {K : PySem.W.Frag} {mg : Str → Option Value} {io io' : List Addr} {M M' : Addr → Prop} {H H' : Hp} {w : W} {v : V} {ws : List W} {vs : List V}
structure Pers (io : List Addr) (M : Addr → Prop) (H : Hp) (io' : List Addr) (M' : Addr → Prop) (H' : Hp) : Prop where
  keep : ∀ a o, H a = some o → ¬ M a → H' a = some o
  new : ∀ a, M' a → M a ∨ H a = none
  ext : ∀ (n : Nat) (a : Addr), io[n]? = some a → io'[n]? = some a
theorem Pers.notin (p : Pers io M H io' M' H') {a : Addr} {o : HO} (h : H a = some o) (hM : ¬ M a) : ¬ M' a := fun z => by
  rcases p.new a z with q | q
  · exact hM q
  · rw [h] at q; cases q
theorem Rd.some_of {a : Addr} {u : HO} (h : Rd H a u) : ∃ o, H a = some o := by
  rcases h with h | ⟨o, h⟩
  · exact ⟨_, h⟩
  · exact ⟨_, h⟩
theorem Pers.rd (p : Pers io M H io' M' H') {a : Addr} {u : HO} (h : Rd H a u) (hM : ¬ M a) : Rd H' a u := by
  rcases h with h | ⟨o, h⟩
  · exact .inl (p.keep _ _ h hM)
  · exact .inr ⟨o, p.keep _ _ h hM⟩
theorem Pers.notin' (p : Pers io M H io' M' H') {a : Addr} {u : HO} (h : Rd H a u) (hM : ¬ M a) : ¬ M' a :=
  let ⟨_, q⟩ := Rd.some_of h
  p.notin q hM
theorem Rw.pers (p : Pers io M H io' M' H') (h : Rw K mg io M H w v) : Rw K mg io' M' H' w v := by
  induction h with
  | non => exact .non
  | bl b => exact .bl b
  | int i => exact .int i
  | str x => exact .str x
  | byt b => exact .byt b
  | tup h l _ ih => exact .tup (h.imp (fun ⟨x, y⟩ => ⟨p.keep _ _ x y, p.notin x y⟩) id) l ih
  | frl h l _ ih => exact .frl (h.imp (fun ⟨x, y⟩ => ⟨p.rd x y, p.notin' x y⟩) id) l ih
  | lst h n l _ ih => exact .lst (p.keep _ _ h n) (p.notin h n) l ih
  | dK h n l _ ih => exact .dK (p.rd h n) (p.notin' h n) l ih
  | dT h n l _ ih => exact .dT (p.rd h n) (p.notin' h n) l ih
  | dF h n l _ ih => exact .dF (p.keep _ _ h n) (p.notin h n) l ih
  | obj m h n l _ ih => exact .obj m (p.keep _ _ h n) (p.notin h n) l ih
  | slt m h n h2 n2 l _ ih => exact .slt m (p.keep _ _ h n) (p.notin h n) (p.keep _ _ h2 n2) (p.notin h2 n2) l ih
  | ref h => exact .ref (p.ext _ _ h)
theorem Rws.pers (p : Pers io M H io' M' H') (h : Rws K mg io M H ws vs) : Rws K mg io' M' H' ws vs := ⟨h.1, fun i w v a b => (h.2 i w v a b).pers p⟩
theorem Rkv.pers {κ : Type} {ws : List (κ × W)} {vs : List (κ × V)} (p : Pers io M H io' M' H') (h : Rkv K mg io M H ws vs) : Rkv K mg io' M' H' ws vs := ⟨h.1, h.2.pers p⟩
theorem Pers.refl : Pers io M H io M H := ⟨fun _ _ h _ => h, fun _ h => .inl h, fun _ _ h => h⟩
theorem Pers.less (h : ∀ a, M' a → M a) : Pers io M H io M' H := ⟨fun _ _ h _ => h, fun a z => .inl (h a z), fun _ _ h => h⟩
theorem Rws.nil : Rws K mg io M H [] [] := ⟨rfl, fun i w v h => by simp at h⟩
theorem Rws.cons (h : Rw K mg io M H w v) (t : Rws K mg io M H ws vs) : Rws K mg io M H (w :: ws) (v :: vs) := by
  refine ⟨by simp [t.1], fun i a b ha hb => ?_⟩
  cases i with
  | zero => simp at ha hb; subst ha; subst hb; exact h
  | succ i => exact t.2 i a b (by simpa using ha) (by simpa using hb)
theorem Rws.cons_inv (h : Rws K mg io M H (w :: ws) vs) : ∃ v r, vs = v :: r ∧ Rw K mg io M H w v ∧ Rws K mg io M H ws r := by
  cases vs with
  | nil => have := h.1; simp at this
  | cons v r => exact ⟨v, r, rfl, h.2 0 w v rfl rfl, by have := h.1; simpa using this, fun i a b ha hb => h.2 (i + 1) a b (by simpa using ha) (by simpa using hb)⟩
theorem Rws.nil_inv (h : Rws K mg io M H [] vs) : vs = [] := by
  have := h.1
  cases vs with
  | nil => rfl
  | cons _ _ => simp at this
theorem Rws.get (h : Rws K mg io M H ws vs) {i : Nat} (e : ws[i]? = some w) : ∃ v, vs[i]? = some v ∧ Rw K mg io M H w v := by
  have hi : i < ws.length := by
    rcases Nat.lt_or_ge i ws.length with q | q
    · exact q
    · rw [List.getElem?_eq_none_iff.mpr q] at e; cases e
  have hv : i < vs.length := by rw [← h.1]; exact hi
  exact ⟨vs[i], by simp [hv], h.2 i w _ e (by simp [hv])⟩
theorem Rws.append {ws' : List W} {vs' : List V} (h : Rws K mg io M H ws vs) (t : Rws K mg io M H ws' vs') : Rws K mg io M H (ws ++ ws') (vs ++ vs') := by
  refine ⟨by simp [h.1, t.1], fun i a b ha hb => ?_⟩
  rcases Nat.lt_or_ge i ws.length with q | q
  · rw [List.getElem?_append_left q] at ha
    rw [List.getElem?_append_left (by rw [← h.1]; exact q)] at hb
    exact h.2 i a b ha hb
  · rw [List.getElem?_append_right q] at ha
    rw [List.getElem?_append_right (by rw [← h.1]; exact q)] at hb
    rw [← h.1] at hb
    exact t.2 _ a b ha hb
theorem Rws.one (h : Rw K mg io M H w v) : Rws K mg io M H [w] [v] := Rws.cons h Rws.nil
theorem Rws.set (h : Rws K mg io M H ws vs) {i : Nat} (hw : Rw K mg io M H w v) : Rws K mg io M H (ws.set i w) (vs.set i v) := by
  refine ⟨by simp [h.1], fun j a b ha hb => ?_⟩
  by_cases e : i = j
  · subst e
    rcases Nat.lt_or_ge i ws.length with q | q
    · rw [List.getElem?_set_self q] at ha
      rw [List.getElem?_set_self (by rw [← h.1]; exact q)] at hb
      cases ha; cases hb; exact hw
    · rw [List.getElem?_eq_none (by simpa using q)] at ha; cases ha
  · rw [List.getElem?_set_ne e] at ha hb
    exact h.2 j a b ha hb
theorem Rws.take (h : Rws K mg io M H ws vs) (n : Nat) : Rws K mg io M H (ws.take n) (vs.take n) := by
  refine ⟨by simp [h.1], fun i a b ha hb => ?_⟩
  rw [List.getElem?_take] at ha hb
  split at ha
  · rename_i q
    rw [if_pos q] at hb
    exact h.2 i a b ha hb
  · cases ha
theorem Rws.drop (h : Rws K mg io M H ws vs) (n : Nat) : Rws K mg io M H (ws.drop n) (vs.drop n) := by
  refine ⟨by simp [h.1], fun i a b ha hb => ?_⟩
  rw [List.getElem?_drop] at ha hb
  exact h.2 _ a b ha hb
theorem Rkv.nil {κ : Type} : Rkv (κ := κ) K mg io M H [] [] := ⟨rfl, Rws.nil⟩
theorem Rkv.cons {κ : Type} {k : κ} {ws : List (κ × W)} {vs : List (κ × V)} (h : Rw K mg io M H w v) (t : Rkv K mg io M H ws vs) : Rkv K mg io M H ((k, w) :: ws) ((k, v) :: vs) := ⟨by simp [t.1], Rws.cons h t.2⟩
theorem Rkv.cons_inv {κ : Type} {k : κ} {ws : List (κ × W)} {vs : List (κ × V)} (h : Rkv K mg io M H ((k, w) :: ws) vs) : ∃ v r, vs = (k, v) :: r ∧ Rw K mg io M H w v ∧ Rkv K mg io M H ws r := by
  cases vs with
  | nil => have := h.1; simp at this
  | cons p r =>
    obtain ⟨k', v⟩ := p
    have e := h.1
    simp only [List.map_cons, List.cons.injEq] at e
    obtain ⟨v', r', e', h1, h2⟩ := Rws.cons_inv (by simpa using h.2 : Rws K mg io M H (w :: ws.map (·.2)) (((k', v) :: r).map (·.2)))
    simp only [List.map_cons, List.cons.injEq] at e'
    obtain ⟨rfl, e2⟩ := e'
    obtain ⟨rfl, e1⟩ := e
    exact ⟨v, r, rfl, h1, e1, by rw [e2]; exact h2⟩
theorem Rkv.nil_inv {κ : Type} {vs : List (κ × V)} (h : Rkv K mg io M H [] vs) : vs = [] := by
  have := h.1
  cases vs with
  | nil => rfl
  | cons _ _ => simp at this
theorem Rkv.length {κ : Type} {ws : List (κ × W)} {vs : List (κ × V)} (h : Rkv K mg io M H ws vs) : ws.length = vs.length := by
  have := congrArg List.length h.1
  simpa using this
theorem Rkv.lookup {κ : Type} [BEq κ] {k : κ} {vs : List (κ × V)} : ∀ {ws : List (κ × W)} {vs : List (κ × V)}, Rkv K mg io M H ws vs → ws.lookup k = some w → ∃ v, vs.lookup k = some v ∧ Rw K mg io M H w v
  | [], _, _, e => by simp at e
  | (k', w') :: ws, vs, h, e => by
    obtain ⟨v, r, rfl, h1, h2⟩ := Rkv.cons_inv h
    by_cases q : (k == k') = true
    · rw [List.lookup_cons, q] at e
      simp at e
      subst e
      exact ⟨v, by rw [List.lookup_cons, q], h1⟩
    · have q' : (k == k') = false := by simpa using q
      rw [List.lookup_cons, q'] at e
      obtain ⟨u, h3, h4⟩ := Rkv.lookup (vs := r) h2 e
      exact ⟨u, by rw [List.lookup_cons, q']; exact h3, h4⟩
def Nt (o : HO) : Prop := ∀ vs, o ≠ .tup vs
theorem Nt.of {H : Hp} {a : Addr} {o : HO} (h : H a = some o) (n : Nt o) (vs : List V) : H a ≠ some (.tup vs) := fun z => n vs (Option.some.inj (h.symm.trans z))
def Rc (K : PySem.W.Frag) (mg : Str → Option Value) (io : List Addr) (M : Addr → Prop) (H : Hp) : Cell → HO → Prop
  | .lst ws, o => ∃ vs, o = .lst vs ∧ Rws K mg io M H ws vs
  | .dK ws, o => ∃ vs, o = .dK vs ∧ Rkv K mg io M H ws vs
  | .dT ws, o => ∃ vs, o = .dT vs ∧ Rkv K mg io M H ws vs
  | .ins nm ws, o => ∃ C dx vs, o = .ins C dx vs ∧ mg nm = some (.ref C) ∧ Rkv K mg io M H ws vs
variable {c : Cell} {o : HO}
theorem Rc.pers (p : Pers io M H io' M' H') (h : Rc K mg io M H c o) : Rc K mg io' M' H' c o := by
  cases c with
  | lst ws => obtain ⟨vs, e, h⟩ := h; exact ⟨vs, e, h.pers p⟩
  | dK ws => obtain ⟨vs, e, h⟩ := h; exact ⟨vs, e, h.pers p⟩
  | dT ws => obtain ⟨vs, e, h⟩ := h; exact ⟨vs, e, h.pers p⟩
  | ins nm ws => obtain ⟨C, dx, vs, e, m, h⟩ := h; exact ⟨C, dx, vs, e, m, h.pers p⟩
theorem Rc.froze {a : Addr} (h : Rc K mg io M H c o) (ha : H a = some o) (hn : ¬ M a) : Rw K mg io M H c.toW (.ref a) := by
  cases c with
  | lst ws => obtain ⟨vs, rfl, h⟩ := h; exact .lst ha hn h.1 h.2
  | dK ws => obtain ⟨vs, rfl, h⟩ := h; exact .dK (.inl ha) hn h.1 h.2.2
  | dT ws => obtain ⟨vs, rfl, h⟩ := h; exact .dT (.inl ha) hn h.1 h.2.2
  | ins nm ws => obtain ⟨C, dx, vs, rfl, m, h⟩ := h; exact .obj m ha hn h.1 h.2.2
theorem Rc.nt (h : Rc K mg io M H c o) : Nt o := by
  cases c with
  | lst ws => obtain ⟨vs, rfl, h⟩ := h; intro _ z; cases z
  | dK ws => obtain ⟨vs, rfl, h⟩ := h; intro _ z; cases z
  | dT ws => obtain ⟨vs, rfl, h⟩ := h; intro _ z; cases z
  | ins nm ws => obtain ⟨C, dx, vs, rfl, m, h⟩ := h; intro _ z; cases z
def ExR (K : PySem.W.Frag) (mg : Str → Option Value) (io : List Addr) (M : Addr → Prop) (H : Hp) (x : Ex) (cls : Value) (d : Option Addr) : Prop :=
  ∃ C, mg x.nm = some (.ref C) ∧ cls = .ref C ∧ ((x.fs = [] ∧ d = none) ∨ ∃ dd vs, d = some dd ∧ H dd = some (.xd vs) ∧ ¬ M dd ∧ Rkv K mg io M H x.fs vs)
theorem ExR.pers {x : Ex} {cls : Value} {d : Option Addr} (p : Pers io M H io' M' H') (h : ExR K mg io M H x cls d) : ExR K mg io' M' H' x cls d := by
  obtain ⟨C, h1, h2, h3⟩ := h
  refine ⟨C, h1, h2, h3.imp id ?_⟩
  rintro ⟨dd, vs, e1, e2, e3, e4⟩
  exact ⟨dd, vs, e1, p.keep _ _ e2 e3, p.notin e2 e3, e4.pers p⟩
def Mu (io : List Addr) (Fr : Addr → Prop) : Addr → Prop := fun a => a ∈ io ∨ Fr a
structure GSim (K : PySem.W.Frag) (mg : Str → Option Value) (io : List Addr) (Fr : Addr → Prop) (G : List Cell) (H : Hp) : Prop where
  len : io.length = G.length
  cell : ∀ (n : Nat) (a : Addr) (c : Cell), io[n]? = some a → G[n]? = some c → ∃ o, H a = some o ∧ Rc K mg io (Mu io Fr) H c o
  nd : io.Nodup
  dj : ∀ a ∈ io, ¬ Fr a
  fr : ∀ a, Fr a → ∃ o, H a = some o ∧ Nt o
def FrO (Fr : Addr → Prop) (r : List SV) (σ : L2.St) : Addr → Prop := fun a => Fr a ∨ ∃ (i : Nat) (c : Cell), r[i]? = some (.own c) ∧ σ[i]? = some (some (V.ref a))
structure Sim (K : PySem.W.Frag) (mg : Str → Option Value) (ea : EA) (io : List Addr) (Fr : Addr → Prop) (s : S) (σ : L2.St) (H : Hp) : Prop where
  len : s.r.length = σ.length
  g : GSim K mg io (FrO Fr s.r σ) s.G H
  val : ∀ (i : Nat) (w : W), s.r[i]? = some (.val w) → ∃ v, σ[i]? = some (some v) ∧ Rw K mg io (Mu io (FrO Fr s.r σ)) H w v
  own : ∀ (i : Nat) (c : Cell), s.r[i]? = some (.own c) → ∃ a o, σ[i]? = some (some (V.ref a)) ∧ H a = some o ∧ Rc K mg io (Mu io (FrO Fr s.r σ)) H c o ∧ ¬ Fr a
  dist : ∀ (i j : Nat) (c d : Cell) (a : Addr), s.r[i]? = some (.own c) → s.r[j]? = some (.own d) → σ[i]? = some (some (V.ref a)) → σ[j]? = some (some (V.ref a)) → i = j
  exc : ∀ (i : Nat) (x : Ex), s.r[i]? = some (.exc x) → σ[i]? = some (some (V.ref ea.a)) ∧ ExR K mg io (Mu io (FrO Fr s.r σ)) H x ea.cls ea.d
structure Stp (io : List Addr) (M : Addr → Prop) (Fr : Addr → Prop) (H : Hp) (io' : List Addr) (M' : Addr → Prop) (H' : Hp) : Prop where
  p : Pers io M H io' M' H'
  fr : ∀ a, Fr a → H' a = H a
  trk : ∀ a o, H a = some o → ∃ o', H' a = some o'
theorem Stp.refl {Fr : Addr → Prop} : Stp io M Fr H io M H := ⟨.refl, fun _ _ => rfl, fun _ o h => ⟨o, h⟩⟩
theorem Pers.trans {io2 : List Addr} {M2 : Addr → Prop} {H2 : Hp} (a : Pers io M H io' M' H') (b : Pers io' M' H' io2 M2 H2) (t : ∀ x o, H x = some o → ∃ o', H' x = some o') : Pers io M H io2 M2 H2 where
  keep := fun x o h hM => b.keep x o (a.keep x o h hM) (a.notin h hM)
  new := fun x h => by
    rcases b.new x h with q | q
    · exact a.new x q
    · refine .inr ?_
      cases e : H x with
      | none => rfl
      | some o =>
        obtain ⟨o', e'⟩ := t x o e
        rw [q] at e'; cases e'
  ext := fun n x h => b.ext n x (a.ext n x h)
theorem Stp.trans {Fr : Addr → Prop} {io2 : List Addr} {M2 : Addr → Prop} {H2 : Hp} (a : Stp io M Fr H io' M' H') (b : Stp io' M' Fr H' io2 M2 H2) : Stp io M Fr H io2 M2 H2 where
  p := a.p.trans b.p a.trk
  fr := fun x h => (b.fr x h).trans (a.fr x h)
  trk := fun x o h => let ⟨o', h'⟩ := a.trk x o h; b.trk x o' h'
end
end Z
namespace Z
open PySem PySem.Spec PyProof.Rows
open L2 hiding XE Takes CX takes_of passes_call passAt MkP PMk ps_raise mk_of ps_try_as ps_try_many pmk_own Takes.imp
open L2N
theorem okN {FX : CXT} {P : Program} {w : World} {K : PySem.W.Frag} {mg : Str → Option Value} {base : Heap} {x qual : Str} {st : Stmt} {f : Addr} {fd : FuncData} {N ps : List Str} {k : Nat} {sp : Sp} (F : Fun K x qual st f fd) (S : FnScope N ps (defScope st))
    (len : ∀ vs H Q E, sp vs H Q E → vs.length = ps.length)
    (bd : ∀ (cdv : Value) (A : Around) (outer : List Env) (s : Shared) (H : Hp) (vs : List V) (Q : VK) (E : XK), Room k (A.deeper (envOfC qual (defScope st) s.heap.objs.size f cdv)) → sp vs H Q E →
      ∃ t, PSs (cxOf FX P w K mg base N qual (defScope st) f cdv A outer s H E) (defBody st) t ∧ t { nx := fun _ H' => Q .non H', rt := Q } (start N vs) H) : FnOk P w K mg base FX (k + 1) f fd ps sp := by
  obtain ⟨_, _, _, _, _, _, _, _, _, rfl, lk, hcd⟩ := F.ex
  exact fn_of lk hcd S len fun A outer s H vs Q E hr hsp => bd _ A outer s H vs Q E hr hsp
theorem passN {X : Cx} : Passes (L2N.CX X.prog X.w) X E0 := fun _ _ _ _ _ _ _ ⟨_, _, _, _, _, _, _, _, _, _, _, _, z⟩ => z.elim
end Z
set_option Elab.async false
set_option linter.all false
set_option maxRecDepth 100000
namespace Z
open PySem PySem.Spec PyProof.Rows
open L2 hiding XE Takes CX takes_of passes_call passAt MkP PMk ps_raise mk_of ps_try_as ps_try_many pmk_own Takes.imp
open L2N
abbrev Mo (α : Type) := S → Option (Except Ex α × S)
inductive FV where
  | val (w : W)
  | own (c : Cell)
inductive Fl where
  | nx
  | bk
  | ct
  | rt (x : FV)
def ret {α : Type} (a : α) : Mo α := fun s => some (.ok a, s)
def stk {α : Type} : Mo α := fun _ => none
def raiseM {α : Type} (x : Ex) : Mo α := fun s => some (.error x, s)
def bnd {α β : Type} (m : Mo α) (f : α → Mo β) : Mo β := fun s => match m s with
  | none => none
  | some (.error x, s') => some (.error x, s')
  | some (.ok a, s') => f a s'
theorem bnd_some {α β : Type} {m : Mo α} {f : α → Mo β} {s : S} {r : Except Ex β} {s' : S} (h : bnd m f s = some (r, s')) :
    (∃ x, m s = some (.error x, s') ∧ r = .error x) ∨ ∃ a s1, m s = some (.ok a, s1) ∧ f a s1 = some (r, s') := by
  unfold bnd at h
  cases e : m s with
  | none => rw [e] at h; cases h
  | some p =>
    obtain ⟨q, s1⟩ := p
    rw [e] at h
    cases q with
    | error x =>
      have h' : some ((Except.error x : Except Ex β), s1) = some (r, s') := h
      cases h'
      exact .inl ⟨x, rfl, rfl⟩
    | ok a => exact .inr ⟨a, s1, rfl, h⟩
theorem bnd_at {α β : Type} {m : Mo α} {f : α → Mo β} {s s1 : S} {a : α} (h : m s = some (.ok a, s1)) : bnd m f s = f a s1 := by
  unfold bnd; rw [h]
section
variable (K : PySem.W.Frag) (mg : Str → Option Value)
def pls (Fr : Addr → Prop) (a : Addr) : Addr → Prop := fun b => Fr b ∨ b = a
def Ms (io : List Addr) (Fr : Addr → Prop) (s : S) (σ : L2.St) : Addr → Prop := Mu io (FrO Fr s.r σ)
def PostE (ea : EA) (io : List Addr) (Fr : Addr → Prop) (s : S) (σ : L2.St) (H : Hp) (s' : S) (io' : List Addr) (H' : Hp) : RV → V → Prop
  | .val w, v => Sim K mg ea io' Fr s' σ H' ∧ Stp io (Ms io Fr s σ) Fr H io' (Ms io' Fr s' σ) H' ∧ Rw K mg io' (Ms io' Fr s' σ) H' w v
  | .hnd i, v => Sim K mg ea io' Fr s' σ H' ∧ Stp io (Ms io Fr s σ) Fr H io' (Ms io' Fr s' σ) H' ∧ σ[i]? = some (some v)
  | .own c, v => ∃ a o, v = .ref a ∧ H' a = some o ∧ ¬ FrO Fr s'.r σ a ∧ Sim K mg ea io' (pls Fr a) s' σ H' ∧ Stp io (Ms io Fr s σ) Fr H io' (Ms io' (pls Fr a) s' σ) H' ∧ Rc K mg io' (Ms io' (pls Fr a) s' σ) H' c o
def PostX (ea : EA) (io : List Addr) (Fr : Addr → Prop) (s : S) (σ : L2.St) (H : Hp) (s' : S) (σ' : L2.St) (io' : List Addr) (H' : Hp) (x : Ex) (cls : Value) (d : Option Addr) : Prop :=
  Sim K mg ea io' Fr s' σ' H' ∧ Stp io (Ms io Fr s σ) Fr H io' (Ms io' Fr s' σ') H' ∧ ExR K mg io' (Ms io' Fr s' σ') H' x cls d
def PostS (ea : EA) (io : List Addr) (Fr : Addr → Prop) (s : S) (σ : L2.St) (H : Hp) (s' : S) (σ' : L2.St) (io' : List Addr) (H' : Hp) : Prop :=
  Sim K mg ea io' Fr s' σ' H' ∧ Stp io (Ms io Fr s σ) Fr H io' (Ms io' Fr s' σ') H'
def PostF (io : List Addr) (M Fr : Addr → Prop) (H : Hp) (G' : List Cell) (io' : List Addr) (H' : Hp) : FV → V → Prop
  | .val w, v => GSim K mg io' Fr G' H' ∧ Stp io M Fr H io' (Mu io' Fr) H' ∧ Rw K mg io' (Mu io' Fr) H' w v
  | .own c, v => ∃ a o, v = .ref a ∧ H' a = some o ∧ ¬ Fr a ∧ GSim K mg io' (pls Fr a) G' H' ∧ Stp io M Fr H io' (Mu io' (pls Fr a)) H' ∧ Rc K mg io' (Mu io' (pls Fr a)) H' c o
def RvR (io : List Addr) (M : Addr → Prop) (σ : L2.St) (H : Hp) : RV → V → Prop
  | .val w, v => Rw K mg io M H w v
  | .hnd i, v => σ[i]? = some (some v)
  | .own _, _ => False
def Rn (io : List Addr) (M : Addr → Prop) (H : Hp) (w : W) (v : V) : Prop := Rw K mg io M H w v ∨ ∃ c o a, w = Cell.toW c ∧ v = .ref a ∧ H a = some o ∧ Rc K mg io M H c o
variable (ea : EA) (Wx : WX)
def RefE (t : TE) (m : Mo RV) : Prop := ∀ (σ : L2.St) (H : Hp) (io : List Addr) (Fr : Addr → Prop) (s : S), Sim K mg ea io Fr s σ H → ∀ r s', m s = some (r, s') → ∀ Q : VK,
  (∀ x, r = .ok x → ∀ v H' io', PostE K mg ea io Fr s σ H s' io' H' x v → Q v H') → (∀ x, r = .error x → ∀ cls d H' io', PostX K mg ea io Fr s σ H s' σ io' H' x cls d → Wx cls d σ H') → t σ H Q
def RefT (t : TT) (m : Mo Bool) : Prop := ∀ (σ : L2.St) (H : Hp) (io : List Addr) (Fr : Addr → Prop) (s : S), Sim K mg ea io Fr s σ H → ∀ r s', m s = some (r, s') → ∀ Q : Bool → Hp → Prop,
  (∀ b, r = .ok b → ∀ H' io', PostS K mg ea io Fr s σ H s' σ io' H' → Q b H') → (∀ x, r = .error x → ∀ cls d H' io', PostX K mg ea io Fr s σ H s' σ io' H' x cls d → Wx cls d σ H') → t σ H Q
def RefA (t : TA) (m : Mo (List RV)) : Prop := ∀ (σ : L2.St) (H : Hp) (io : List Addr) (Fr : Addr → Prop) (s : S), Sim K mg ea io Fr s σ H → ∀ r s', m s = some (r, s') → ∀ Q : List V → Hp → Prop,
  (∀ xs, r = .ok xs → ∀ vs H' io', PostS K mg ea io Fr s σ H s' σ io' H' → Paired (RvR K mg io' (Ms io' Fr s' σ) σ H') xs vs → Q vs H') → (∀ x, r = .error x → ∀ cls d H' io', PostX K mg ea io Fr s σ H s' σ io' H' x cls d → Wx cls d σ H') → t σ H Q
def RefS (t : TS) (m : Mo Fl) : Prop := ∀ (σ : L2.St) (H : Hp) (io : List Addr) (Fr : Addr → Prop) (s : S), Sim K mg ea io Fr s σ H → ∀ r s', m s = some (r, s') → ∀ D : Ends,
  (r = .ok .nx → ∀ σ' H' io', PostS K mg ea io Fr s σ H s' σ' io' H' → D.nx σ' H') → (r = .ok .bk → ∀ σ' H' io', PostS K mg ea io Fr s σ H s' σ' io' H' → D.bk σ' H') →
  (r = .ok .ct → ∀ σ' H' io', PostS K mg ea io Fr s σ H s' σ' io' H' → D.ct σ' H') → (∀ f, r = .ok (.rt f) → ∀ v H' io', PostF K mg io (Ms io Fr s σ) Fr H s'.G io' H' f v → D.rt v H') →
  (∀ x, r = .error x → ∀ cls d σ' H' io', PostX K mg ea io Fr s σ H s' σ' io' H' x cls d → Wx cls d σ' H') → t D σ H
end
structure Pee (X : Cx) (ea : EA) (Wx : WX) (e : Expr) (m : Mo RV) : Prop where
  ex : ∃ t, PE X e t ∧ RefE X.K X.mg ea Wx t m
structure Pet (X : Cx) (ea : EA) (Wx : WX) (e : Expr) (m : Mo Bool) : Prop where
  ex : ∃ t, PT X e t ∧ RefT X.K X.mg ea Wx t m
structure Pew (X : Cx) (ea : EA) (Wx : WX) (e : Expr) (m : Mo Bool) : Prop where
  ex : ∃ t, PW X e t ∧ RefT X.K X.mg ea Wx t m
structure Pea (X : Cx) (ea : EA) (Wx : WX) (es : List Expr) (m : Mo (List RV)) : Prop where
  ex : ∃ t, PA X es t ∧ RefA X.K X.mg ea Wx t m
structure Pes (X : Cx) (ea : EA) (Wx : WX) (st : Stmt) (m : Mo Fl) : Prop where
  ex : ∃ t, PS X st t ∧ RefS X.K X.mg ea Wx t m
structure Pess (X : Cx) (ea : EA) (Wx : WX) (st : List Stmt) (m : Mo Fl) : Prop where
  ex : ∃ t, PSs X st t ∧ RefS X.K X.mg ea Wx t m
section
variable {K : PySem.W.Frag} {mg : Str → Option Value} {ea : EA} {io io' : List Addr} {Fr Fr' : Addr → Prop} {s s' : S} {σ σ' : L2.St} {H H' : Hp} {w : W} {v : V} {c : Cell} {o : HO} {a : Addr}
theorem FrO.mono {r : List SV} (h : ∀ b, Fr' b → Fr b) : ∀ b, FrO Fr' r σ b → FrO Fr r σ b := fun b z => z.imp (h b) id
theorem Ms.mono (h : ∀ b, Fr' b → Fr b) : ∀ b, Ms io Fr' s σ b → Ms io Fr s σ b := fun b z => z.imp id (FrO.mono h b)
theorem pls.sub : ∀ b, Fr b → pls Fr a b := fun _ z => .inl z
theorem Ms.pls_sub : ∀ b, Ms io Fr s σ b → Ms io (pls Fr a) s σ b := Ms.mono pls.sub
theorem GSim.less (g : GSim K mg io Fr s.G H) (h : ∀ b, Fr' b → Fr b) : GSim K mg io Fr' s.G H where
  len := g.len
  cell := fun n a c h1 h2 => let ⟨o, e, q⟩ := g.cell n a c h1 h2; ⟨o, e, q.pers (.less fun b z => z.imp id (h b))⟩
  nd := g.nd
  dj := fun a ha z => g.dj a ha (h a z)
  fr := fun a z => g.fr a (h a z)
theorem Sim.less (x : Sim K mg ea io Fr s σ H) (h : ∀ b, Fr' b → Fr b) : Sim K mg ea io Fr' s σ H where
  len := x.len
  g := x.g.less (FrO.mono h)
  val := fun i w e => let ⟨v, q1, q2⟩ := x.val i w e; ⟨v, q1, q2.pers (.less (Ms.mono h))⟩
  own := fun i c e => let ⟨a, o, q1, q2, q3, q4⟩ := x.own i c e; ⟨a, o, q1, q2, q3.pers (.less (Ms.mono h)), fun z => q4 (h a z)⟩
  dist := x.dist
  exc := fun i e q => let ⟨h1, h2⟩ := x.exc i e q; ⟨h1, h2.pers (.less (Ms.mono h))⟩
theorem Stp.less {M M' M2 : Addr → Prop} (x : Stp io M Fr H io' M' H') (h : ∀ b, M2 b → M' b) : Stp io M Fr H io' M2 H' := ⟨⟨x.p.keep, fun a z => x.p.new a (h a z), x.p.ext⟩, x.fr, x.trk⟩
theorem Rn.of (h : Rw K mg io (Ms io Fr s σ) H w v) : Rn K mg io (Ms io Fr s σ) H w v := .inl h
@[simp] def settle : RV → RV
  | .own c => .val c.toW
  | x => x
theorem PostE.settled {x : RV} (h : PostE K mg ea io Fr s σ H s' io' H' x v) : Sim K mg ea io' Fr s' σ H' ∧ Stp io (Ms io Fr s σ) Fr H io' (Ms io' Fr s' σ) H' ∧ RvR K mg io' (Ms io' Fr s' σ) σ H' (settle x) v := by
  cases x with
  | val w => exact h
  | hnd i => exact h
  | own c =>
    obtain ⟨a, o, rfl, ha, hn, S, T, R⟩ := h
    refine ⟨S.less pls.sub, T.less Ms.pls_sub, ?_⟩
    have ni : a ∉ io' := fun z => S.g.dj a z (.inl (.inr rfl))
    exact (R.pers (.less Ms.pls_sub)).froze ha fun z => z.elim ni hn
def derefW (s : S) : W → Option W
  | .ref n => (s.G[n]?).map Cell.toW
  | w => some w
def look : RV → Mo W
  | .val w => fun s => (derefW s w).map fun z => (.ok z, s)
  | .own c => ret c.toW
  | .hnd i => fun s => match s.r[i]? with
    | some (.own c) => some (.ok c.toW, s)
    | some (.val w) => (derefW s w).map fun z => (.ok z, s)
    | _ => none
theorem deref_ok (S : Sim K mg ea io Fr s σ H) (h : Rw K mg io (Ms io Fr s σ) H w v) {z : W} (e : derefW s w = some z) : Rn K mg io (Ms io Fr s σ) H z v := by
  cases w with
  | ref n =>
    simp only [derefW, Option.map_eq_some_iff] at e
    obtain ⟨c, e1, rfl⟩ := e
    cases h with
    | ref h =>
      obtain ⟨o, ho, hc⟩ := S.g.cell n _ c h e1
      exact .inr ⟨c, o, _, rfl, rfl, ho, hc⟩
  | _ => simp only [derefW, Option.some.injEq] at e; subst e; exact .inl h
theorem look_ok (S : Sim K mg ea io Fr s σ H) {x : RV} (h : RvR K mg io (Ms io Fr s σ) σ H x v) {r : Except Ex W} (e : look x s = some (r, s')) : s' = s ∧ ∃ z, r = .ok z ∧ Rn K mg io (Ms io Fr s σ) H z v := by
  cases x with
  | own c => exact h.elim
  | val w =>
    simp only [look, Option.map_eq_some_iff] at e
    obtain ⟨z, e1, e2⟩ := e
    cases e2
    exact ⟨rfl, z, rfl, deref_ok S h e1⟩
  | hnd i =>
    have h' : σ[i]? = some (some v) := h
    simp only [look] at e
    split at e
    · rename_i c q
      cases e
      obtain ⟨a, o, h1, h2, h3, h4⟩ := S.own i c q
      rw [h'] at h1
      cases h1
      exact ⟨rfl, _, rfl, .inr ⟨c, o, a, rfl, rfl, h2, h3⟩⟩
    · rename_i w q
      simp only [Option.map_eq_some_iff] at e
      obtain ⟨z, e1, e2⟩ := e
      cases e2
      obtain ⟨u, h1, h2⟩ := S.val i w q
      rw [h'] at h1
      cases h1
      exact ⟨rfl, z, rfl, deref_ok S h2 e1⟩
    · cases e
def freeze : RV → Mo W
  | .val w => ret w
  | .own c => ret c.toW
  | .hnd i => fun s => match s.r[i]? with
    | some (.own c) => some (.ok c.toW, { s with r := s.r.set i (.val c.toW) })
    | some (.val w) => some (.ok w, s)
    | _ => none
theorem get_lt {α : Type} {l : List α} {i : Nat} {x : α} (h : l[i]? = some x) : i < l.length := by
  rcases Nat.lt_or_ge i l.length with q | q
  · exact q
  · rw [List.getElem?_eq_none_iff.mpr q] at h; cases h
theorem FrO.froze {r : List SV} {i : Nat} {w : W} : ∀ b, FrO Fr (r.set i (.val w)) σ b → FrO Fr r σ b := fun b z => z.imp id fun ⟨j, d, h1, h2⟩ => by
  by_cases e : i = j
  · subst e
    have := get_lt h1
    rw [List.getElem?_set_self (by simpa using this)] at h1
    cases h1
  · rw [List.getElem?_set_ne e] at h1
    exact ⟨j, d, h1, h2⟩
theorem Sim.freeze {i : Nat} (x : Sim K mg ea io Fr s σ H) (e : s.r[i]? = some (.own c)) : Sim K mg ea io Fr { s with r := s.r.set i (.val c.toW) } σ H ∧ ∀ v, σ[i]? = some (some v) → Rw K mg io (Ms io Fr { s with r := s.r.set i (.val c.toW) } σ) H c.toW v := by
  have hi := get_lt e
  obtain ⟨a, o, h1, h2, h3, h4⟩ := x.own i c e
  have le : ∀ b, Ms io Fr { s with r := s.r.set i (.val c.toW) } σ b → Ms io Fr s σ b := fun b z => z.imp id (FrO.froze b)
  have nm : ¬ Ms io Fr { s with r := s.r.set i (.val c.toW) } σ a := fun z => by
    rcases z with z | z | ⟨j, d, q1, q2⟩
    · exact x.g.dj a z (.inr ⟨i, c, e, h1⟩)
    · exact h4 z
    · by_cases ij : i = j
      · subst ij
        rw [List.getElem?_set_self hi] at q1
        cases q1
      · rw [List.getElem?_set_ne ij] at q1
        exact ij (x.dist i j c d a e q1 h1 q2)
  have fz : Rw K mg io (Ms io Fr { s with r := s.r.set i (.val c.toW) } σ) H c.toW (.ref a) := (h3.pers (.less le)).froze h2 nm
  refine ⟨⟨by simpa using x.len, x.g.less (s := s) (FrO.froze), fun j w q => ?_, fun j d q => ?_, fun j k d d' b q1 q2 => ?_, fun j y q => ?_⟩, fun v hv => ?_⟩
  · by_cases ij : i = j
    · subst ij
      rw [List.getElem?_set_self hi] at q
      cases q
      exact ⟨_, h1, fz⟩
    · rw [List.getElem?_set_ne ij] at q
      obtain ⟨v, q1, q2⟩ := x.val j w q
      exact ⟨v, q1, q2.pers (.less le)⟩
  · by_cases ij : i = j
    · subst ij
      rw [List.getElem?_set_self hi] at q
      cases q
    · rw [List.getElem?_set_ne ij] at q
      obtain ⟨b, p, q1, q2, q3, q4⟩ := x.own j d q
      exact ⟨b, p, q1, q2, q3.pers (.less le), q4⟩
  · by_cases ij : i = j
    · subst ij
      rw [List.getElem?_set_self hi] at q1
      cases q1
    · by_cases ik : i = k
      · subst ik
        rw [List.getElem?_set_self hi] at q2
        cases q2
      · rw [List.getElem?_set_ne ij] at q1
        rw [List.getElem?_set_ne ik] at q2
        exact x.dist j k d d' b q1 q2
  · by_cases ij : i = j
    · subst ij
      rw [List.getElem?_set_self hi] at q
      cases q
    · rw [List.getElem?_set_ne ij] at q
      obtain ⟨h1, h2⟩ := x.exc j y q
      exact ⟨h1, h2.pers (.less le)⟩
  · rw [h1] at hv
    cases hv
    exact fz
theorem freeze_ok (S : Sim K mg ea io Fr s σ H) {x : RV} (h : RvR K mg io (Ms io Fr s σ) σ H x v) {r : Except Ex W} (e : freeze x s = some (r, s')) : s'.G = s.G ∧ (∀ b, Ms io Fr s' σ b → Ms io Fr s σ b) ∧ Sim K mg ea io Fr s' σ H ∧ ∃ z, r = .ok z ∧ Rw K mg io (Ms io Fr s' σ) H z v := by
  cases x with
  | own c => exact h.elim
  | val w => cases e; exact ⟨rfl, fun _ z => z, S, w, rfl, h⟩
  | hnd i =>
    have h' : σ[i]? = some (some v) := h
    simp only [Z.freeze] at e
    split at e
    · rename_i c q
      cases e
      obtain ⟨S', f⟩ := S.freeze q
      exact ⟨rfl, fun b z => z.imp id (FrO.froze b), S', _, rfl, f v h'⟩
    · rename_i w q
      cases e
      obtain ⟨u, h1, h2⟩ := S.val i w q
      rw [h'] at h1
      cases h1
      exact ⟨rfl, fun _ z => z, S, w, rfl, h2⟩
    · cases e
theorem RvR.pers {x : RV} {M M' : Addr → Prop} (p : Pers io M H io' M' H') (h : RvR K mg io M σ H x v) : RvR K mg io' M' σ H' x v := by
  cases x with
  | own c => exact h
  | val w => exact Rw.pers p h
  | hnd i => exact h
end
end Z
set_option Elab.async false
set_option linter.all false
set_option maxRecDepth 100000
namespace Z
open PySem PySem.Spec PyProof.Rows
open L2 hiding XE Takes CX takes_of passes_call passAt MkP PMk ps_raise mk_of ps_try_as ps_try_many pmk_own Takes.imp
open L2N
section
variable {K : PySem.W.Frag} {mg : Str → Option Value} {ea : EA} {io io' : List Addr} {Fr Fr' : Addr → Prop} {s s' s2 : S} {σ σ' : L2.St} {H H' : Hp} {w : W} {v : V} {c : Cell} {o : HO} {a p : Addr}
theorem Sim.trkN (x : Sim K mg ea io Fr s σ H) (h : Ms io Fr s σ a) : ∃ o, H a = some o ∧ Nt o := by
  rcases h with h | h
  · obtain ⟨n, hn⟩ := List.mem_iff_getElem?.mp h
    have hl := get_lt hn
    rw [x.g.len] at hl
    obtain ⟨o, e, r⟩ := x.g.cell n a s.G[n] hn (by simp [hl])
    exact ⟨o, e, r.nt⟩
  · exact x.g.fr a h
theorem Sim.trk (x : Sim K mg ea io Fr s σ H) (h : Ms io Fr s σ a) : ∃ o, H a = some o := let ⟨o, e, _⟩ := x.trkN h; ⟨o, e⟩
theorem Sim.move (x : Sim K mg ea io Fr s σ H) (q : Pers io (Ms io Fr s σ) H io (Ms io Fr' s σ) H') (same : ∀ a, Ms io Fr s σ a → H' a = H a)
    (dj : ∀ a, Fr' a → a ∉ io) (dj2 : ∀ a (i : Nat) c, Fr' a → s.r[i]? = some (.own c) → σ[i]? = some (some (V.ref a)) → False) (tr : ∀ a, Fr' a → ∃ o, H' a = some o ∧ Nt o) : Sim K mg ea io Fr' s σ H' where
  len := x.len
  g := ⟨x.g.len, fun n a c h1 h2 => by
      obtain ⟨o, e, r⟩ := x.g.cell n a c h1 h2
      exact ⟨o, by rw [same a (.inl (List.mem_of_getElem? h1))]; exact e, r.pers q⟩,
    x.g.nd, fun a ha z => by
      rcases z with z | z
      · exact dj a z ha
      · exact x.g.dj a ha (.inr z), fun a z => by
      rcases z with z | ⟨i, c, h1, h2⟩
      · exact tr a z
      · obtain ⟨b, o, q1, q2, q3, _⟩ := x.own i c h1
        rw [h2] at q1; cases q1
        exact ⟨o, by rw [same a (.inr (.inr ⟨i, c, h1, h2⟩))]; exact q2, q3.nt⟩⟩
  val := fun i w e => let ⟨v, q1, q2⟩ := x.val i w e; ⟨v, q1, q2.pers q⟩
  own := fun i c e => by
    obtain ⟨a, o, q1, q2, q3, _⟩ := x.own i c e
    exact ⟨a, o, q1, by rw [same a (.inr (.inr ⟨i, c, e, q1⟩))]; exact q2, q3.pers q, fun z => dj2 a i c z e q1⟩
  dist := x.dist
  exc := fun i e k => let ⟨h1, h2⟩ := x.exc i e k; ⟨h1, h2.pers q⟩
theorem Sim.laid (x : Sim K mg ea io Fr s σ H) (hp : H p = none) : Sim K mg ea io Fr s σ (upd H p o) ∧ Stp io (Ms io Fr s σ) Fr H io (Ms io Fr s σ) (upd H p o) := by
  have ne : ∀ b u, H b = some u → upd H p o b = some u := fun b u e => by rw [upd_ne (ne_of_none e hp)]; exact e
  have same : ∀ b, Ms io Fr s σ b → upd H p o b = H b := fun b z => by
    obtain ⟨u, e⟩ := x.trk z
    rw [ne b u e, e]
  have q : Pers io (Ms io Fr s σ) H io (Ms io Fr s σ) (upd H p o) := ⟨fun b u e _ => ne b u e, fun b z => .inl z, fun _ _ e => e⟩
  refine ⟨x.move q same (fun b z h => x.g.dj b h (.inl z)) (fun b i c z h1 h2 => ?_) (fun b z => ?_), q, fun b z => same b (.inr (.inl z)), fun b u e => ⟨u, ne b u e⟩⟩
  · obtain ⟨a', o', q1, _, _, q4⟩ := x.own i c h1
    rw [h2] at q1; cases q1
    exact q4 z
  · obtain ⟨u, e, n⟩ := x.trkN (a := b) (.inr (.inl z))
    exact ⟨u, ne b u e, n⟩
theorem Sim.alloc (x : Sim K mg ea io Fr s σ H) (hp : H p = none) (hN : Nt o := by intro _ z; cases z) : Sim K mg ea io (pls Fr p) s σ (upd H p o) ∧ Stp io (Ms io Fr s σ) Fr H io (Ms io (pls Fr p) s σ) (upd H p o) ∧ ¬ FrO Fr s.r σ p := by
  have ne : ∀ b u, H b = some u → upd H p o b = some u := fun b u e => by rw [upd_ne (ne_of_none e hp)]; exact e
  have same : ∀ b, Ms io Fr s σ b → upd H p o b = H b := fun b z => by
    obtain ⟨u, e⟩ := x.trk z
    rw [ne b u e, e]
  have nM : ¬ Ms io Fr s σ p := fun z => by
    obtain ⟨u, e⟩ := x.trk z
    rw [hp] at e; cases e
  have q : Pers io (Ms io Fr s σ) H io (Ms io (pls Fr p) s σ) (upd H p o) := ⟨fun b u e _ => ne b u e, fun b z => by
    rcases z with z | (z | z) | z
    · exact .inl (.inl z)
    · exact .inl (.inr (.inl z))
    · exact .inr (by rw [z]; exact hp)
    · exact .inl (.inr (.inr z)), fun _ _ e => e⟩
  refine ⟨x.move q same (fun b z h => ?_) (fun b i c z h1 h2 => ?_) (fun b z => ?_), ⟨q, fun b z => same b (.inr (.inl z)), fun b u e => ⟨u, ne b u e⟩⟩, fun z => nM (.inr z)⟩
  · rcases z with z | z
    · exact x.g.dj b h (.inl z)
    · exact nM (.inl (z ▸ h))
  · obtain ⟨a', o', q1, _, _, q4⟩ := x.own i c h1
    rw [h2] at q1; cases q1
    rcases z with z | z
    · exact q4 z
    · exact nM (.inr (.inr ⟨i, c, h1, z ▸ h2⟩))
  · rcases z with z | z
    · obtain ⟨u, e, n⟩ := x.trkN (a := b) (.inr (.inl z))
      exact ⟨u, ne b u e, n⟩
    · exact ⟨o, by rw [z, upd_same], hN⟩
theorem Stp.frless {M M' : Addr → Prop} (x : Stp io M Fr H io' M' H') (h : ∀ b, Fr' b → Fr b) : Stp io M Fr' H io' M' H' := ⟨x.p, fun a z => x.fr a (h a z), x.trk⟩
theorem Sim.call {G' : List Cell} (x : Sim K mg ea io Fr s σ H) (g : GSim K mg io' (FrO Fr' s.r σ) G' H') (T : Stp io (Ms io Fr s σ) (FrO Fr s.r σ) H io' (Mu io' (FrO Fr' s.r σ)) H')
    (n : ∀ a (i : Nat) c, s.r[i]? = some (.own c) → σ[i]? = some (some (V.ref a)) → ¬ Fr' a) : Sim K mg ea io' Fr' { s with G := G' } σ H' where
  len := x.len
  g := g
  val := fun i w e => let ⟨v, q1, q2⟩ := x.val i w e; ⟨v, q1, q2.pers T.p⟩
  own := fun i c e => by
    obtain ⟨a, o, q1, q2, q3, _⟩ := x.own i c e
    exact ⟨a, o, q1, by rw [T.fr a (.inr ⟨i, c, e, q1⟩)]; exact q2, q3.pers T.p, n a i c e q1⟩
  dist := x.dist
  exc := fun i e k => let ⟨h1, h2⟩ := x.exc i e k; ⟨h1, h2.pers T.p⟩
inductive OR where
  | imm (w : W)
  | newl (ws : List W)
  | newt (ws : List W)
@[simp] def OR.toRV : OR → RV
  | .imm w => .val w
  | .newl ws => .own (.lst ws)
  | .newt ws => .val (.tup ws)
def OQ (K : PySem.W.Frag) (mg : Str → Option Value) (io : List Addr) (M : Addr → Prop) (H : Hp) (z : OR) (Q : VK) : Prop := match z with
  | .imm w => ∀ v, Rw K mg io M H w v → Q v H
  | .newl ws => ∀ p vs, H p = none → Rws K mg io M H ws vs → Q (.ref p) (upd H p (.lst vs))
  | .newt ws => ∀ p vs, H p = none → Rws K mg io M H ws vs → Q (.ref p) (upd H p (.tup vs))
theorem OQ.post {z : OR} (x : Sim K mg ea io' Fr s2 σ H') (T : Stp io (Ms io Fr s σ) Fr H io' (Ms io' Fr s2 σ) H') {Q : VK}
    (hok : ∀ v H2 io2, PostE K mg ea io Fr s σ H s2 io2 H2 z.toRV v → Q v H2) : OQ K mg io' (Ms io' Fr s2 σ) H' z Q := by
  cases z with
  | imm w => exact fun v r => hok v _ _ ⟨x, T, r⟩
  | newl ws =>
    intro p vs hp r
    obtain ⟨S, T2, nf⟩ := x.alloc (o := .lst vs) hp
    exact hok _ _ _ ⟨p, .lst vs, rfl, upd_same, nf, S, T.trans T2, vs, rfl, r.pers T2.p⟩
  | newt ws =>
    intro p vs hp r
    obtain ⟨S, T2⟩ := x.laid (o := .tup vs) hp
    have r' := r.pers T2.p
    refine hok _ _ _ ⟨S, T.trans T2, .tup (.inl ⟨upd_same, fun z => ?_⟩) r'.1 r'.2⟩
    obtain ⟨u, e⟩ := x.trk z
    rw [hp] at e; cases e
def OpM (X : Cx) (g : Value → Value → Sem Value) (f : W → W → Option OR) : Prop :=
  ∃ r : R2, OpR X g r ∧ ∀ io M H x y vx vy z Q, Rn X.K X.mg io M H x vx → Rn X.K X.mg io M H y vy → f x y = some z → OQ X.K X.mg io M H z Q → r vx vy H Q
def UnM (X : Cx) (g : Value → Sem Value) (f : W → Option OR) : Prop :=
  ∃ r : V → Hp → VK → Prop, UnR X g r ∧ ∀ io M H x vx z Q, Rn X.K X.mg io M H x vx → f x = some z → OQ X.K X.mg io M H z Q → r vx H Q
def orf {α β γ : Type} (f g : α → β → Option γ) : α → β → Option γ := fun x y => match f x y with
  | some z => some z
  | none => g x y
theorem OpM.or {X : Cx} {g : Value → Value → Sem Value} {f f' : W → W → Option OR} (h : OpM X g f) (h' : OpM X g f') : OpM X g (orf f f') := by
  obtain ⟨r, a, b⟩ := h
  obtain ⟨r', a', b'⟩ := h'
  refine ⟨_, a.or a', fun io M H x y vx vy z Q rx ry e q => ?_⟩
  unfold orf at e
  cases k : f x y with
  | some z' =>
    rw [k] at e
    cases e
    exact .inl (b io M H x y vx vy z Q rx ry k q)
  | none =>
    rw [k] at e
    exact .inr (b' io M H x y vx vy z Q rx ry e q)
def liftO (z : Option OR) : Mo RV := match z with
  | some z => ret z.toRV
  | none => stk
def opM (f : W → W → Option OR) (x y : RV) : Mo RV := bnd (look x) fun wx => bnd (look y) fun wy => liftO (f wx wy)
def mBin (f : W → W → Option OR) (ma mb : Mo RV) : Mo RV := bnd ma fun x => bnd mb fun y => opM f (settle x) (settle y)
def mUn (f : W → Option OR) (ma : Mo RV) : Mo RV := bnd ma fun x => bnd (look (settle x)) fun wx => liftO (f wx)
theorem liftO_some {z : Option OR} {r : Except Ex RV} (h : liftO z s = some (r, s')) : s' = s ∧ ∃ u, z = some u ∧ r = .ok u.toRV := by
  cases z with
  | none => cases h
  | some u => cases h; exact ⟨rfl, u, rfl, rfl⟩
section
variable {Wx : WX} {ta tb tc : TE} {ma mb mc : Mo RV}
theorem bin2 (ha : RefE K mg ea Wx ta ma) (hb : RefE K mg ea Wx tb mb) (S0 : Sim K mg ea io Fr s σ H) {α : Type} {f : RV → RV → Mo α} {r : Except Ex α}
    (e : bnd ma (fun x => bnd mb fun y => f (settle x) (settle y)) s = some (r, s'))
    (hex : ∀ x, r = .error x → ∀ cls d H' io', PostX K mg ea io Fr s σ H s' σ io' H' x cls d → Wx cls d σ H')
    {R : V → V → Hp → Prop} (hR : ∀ x y s2 vx vy H2 io2, f x y s2 = some (r, s') → Sim K mg ea io2 Fr s2 σ H2 → Stp io (Ms io Fr s σ) Fr H io2 (Ms io2 Fr s2 σ) H2 →
      RvR K mg io2 (Ms io2 Fr s2 σ) σ H2 x vx → RvR K mg io2 (Ms io2 Fr s2 σ) σ H2 y vy → R vx vy H2) : ta σ H fun x H1 => tb σ H1 fun y H2 => R x y H2 := by
  rcases bnd_some e with ⟨x, e1, rfl⟩ | ⟨x, s1, e1, e2⟩
  · exact ha σ H io Fr s S0 _ _ e1 _ (fun _ q => by cases q) fun x' q cls d H' io' px => by
      cases q
      exact hex _ rfl cls d H' io' px
  · refine ha σ H io Fr s S0 _ _ e1 _ (fun x' q vx H1 io1 px => ?_) (fun _ q => by cases q)
    cases q
    obtain ⟨S1, T1, R1⟩ := px.settled
    rcases bnd_some e2 with ⟨y, e3, rfl⟩ | ⟨y, s2, e3, e4⟩
    · exact hb σ H1 io1 Fr s1 S1 _ _ e3 _ (fun _ q => by cases q) fun x' q cls d H' io' py => by
        cases q
        exact hex _ rfl cls d H' io' ⟨py.1, T1.trans py.2.1, py.2.2⟩
    · refine hb σ H1 io1 Fr s1 S1 _ _ e3 _ (fun y' q vy H2 io2 py => ?_) (fun _ q => by cases q)
      cases q
      obtain ⟨S2, T2, R2⟩ := py.settled
      exact hR _ _ s2 vx vy H2 io2 e4 S2 (T1.trans T2) (R1.pers T2.p) R2
theorem ref_op {X : Cx} {g : Value → Value → Sem Value} {f : W → W → Option OR} {r : R2} (hr : ∀ io M H x y vx vy z Q, Rn K mg io M H x vx → Rn K mg io M H y vy → f x y = some z → OQ K mg io M H z Q → r vx vy H Q)
    (ha : RefE K mg ea Wx ta ma) (hb : RefE K mg ea Wx tb mb) : RefE K mg ea Wx (tOp r ta tb) (mBin f ma mb) := by
  intro σ H io Fr s S0 r0 s' e Q hok hex
  refine bin2 ha hb S0 e hex fun x y s2 vx vy H2 io2 e4 S2 T2 rx ry => ?_
  rcases bnd_some e4 with ⟨z, e5, rfl⟩ | ⟨wx, s3, e5, e6⟩
  · obtain ⟨_, _, q, _⟩ := look_ok S2 rx e5
    cases q
  · obtain ⟨rfl, wx', q, nx⟩ := look_ok S2 rx e5
    cases q
    rcases bnd_some e6 with ⟨z, e7, rfl⟩ | ⟨wy, s4, e7, e8⟩
    · obtain ⟨_, _, q, _⟩ := look_ok S2 ry e7
      cases q
    · obtain ⟨rfl, wy', q, ny⟩ := look_ok S2 ry e7
      cases q
      obtain ⟨rfl, u, hu, rfl⟩ := liftO_some e8
      exact hr _ _ _ _ _ _ _ _ _ nx ny hu (OQ.post S2 T2 fun v H3 io3 px => hok _ rfl v H3 io3 px)
theorem ref_un {f : W → Option OR} {r : V → Hp → VK → Prop} (hr : ∀ io M H x vx z Q, Rn K mg io M H x vx → f x = some z → OQ K mg io M H z Q → r vx H Q)
    (ha : RefE K mg ea Wx ta ma) : RefE K mg ea Wx (tUn r ta) (mUn f ma) := by
  intro σ H io Fr s S0 r0 s' e Q hok hex
  rcases bnd_some e with ⟨x, e1, rfl⟩ | ⟨x, s1, e1, e2⟩
  · exact ha σ H io Fr s S0 _ _ e1 _ (fun _ q => by cases q) fun x' q cls d H' io' px => by
      cases q
      exact hex _ rfl cls d H' io' px
  · refine ha σ H io Fr s S0 _ _ e1 _ (fun x' q vx H1 io1 px => ?_) (fun _ q => by cases q)
    cases q
    obtain ⟨S1, T1, R1⟩ := px.settled
    rcases bnd_some e2 with ⟨z, e5, rfl⟩ | ⟨wx, s3, e5, e6⟩
    · obtain ⟨_, _, q, _⟩ := look_ok S1 R1 e5
      cases q
    · obtain ⟨rfl, wx', q, nx⟩ := look_ok S1 R1 e5
      cases q
      obtain ⟨rfl, u, hu, rfl⟩ := liftO_some e6
      exact hr _ _ _ _ _ _ _ nx hu (OQ.post S1 T1 fun v H3 io3 px => hok _ rfl v H3 io3 px)
end
def mName (i : Nat) : Mo RV := fun s => match s.r[i]? with
  | some (.val w) => some (.ok (.val w), s)
  | some (.own _) => some (.ok (.hnd i), s)
  | _ => none
def mC (w : W) : Mo RV := ret (.val w)
variable {Wx : WX}
theorem ref_name (i : Nat) : RefE K mg ea Wx (tVar i) (mName i) := by
  intro σ H io Fr s S0 r0 s' e Q hok hex
  unfold mName at e
  split at e
  · rename_i w q
    cases e
    obtain ⟨v, q1, q2⟩ := S0.val i w q
    exact ⟨v, q1, hok _ rfl v H io ⟨S0, .refl, q2⟩⟩
  · rename_i c q
    cases e
    obtain ⟨a, o, q1, _⟩ := S0.own i c q
    exact ⟨_, q1, hok _ rfl _ H io ⟨S0, .refl, q1⟩⟩
  · cases e
theorem ref_c {w : W} {v : V} (h : ∀ io M H, Rw K mg io M H w v) : RefE K mg ea Wx (tC v) (mC w) := by
  intro σ H io Fr s S0 r0 s' e Q hok hex
  cases e
  exact hok _ rfl v H io ⟨S0, .refl, h _ _ _⟩
def toB : RV → Mo Bool
  | .val (.bl b) => ret b
  | _ => stk
def mB (m : Mo RV) : Mo Bool := bnd m toB
theorem toB_some {x : RV} {r : Except Ex Bool} (h : toB x s = some (r, s')) : s' = s ∧ ∃ b, x = .val (.bl b) ∧ r = .ok b := by
  unfold toB at h
  split at h
  · rename_i b
    cases h; exact ⟨rfl, b, rfl, rfl⟩
  · cases h
theorem ref_test {t : TE} {m : Mo RV} (h : RefE K mg ea Wx t m) : RefT K mg ea Wx (tTest t) (mB m) := by
  intro σ H io Fr s S0 r0 s' e Q hok hex
  rcases bnd_some e with ⟨x, e1, rfl⟩ | ⟨x, s1, e1, e2⟩
  · exact h σ H io Fr s S0 _ _ e1 _ (fun _ q => by cases q) fun x' q cls d H' io' px => by
      cases q
      exact hex _ rfl cls d H' io' px
  · refine h σ H io Fr s S0 _ _ e1 _ (fun x' q vx H1 io1 px => ?_) (fun _ q => by cases q)
    cases q
    obtain ⟨rfl, b, rfl, rfl⟩ := toB_some e2
    obtain ⟨S1, T1, R1⟩ := px
    cases R1
    exact ⟨b, rfl, hok _ rfl H1 io1 ⟨S1, T1⟩⟩
def mAnd (a b : Mo Bool) : Mo Bool := bnd a fun x => if x = true then b else ret false
def mOr (a b : Mo Bool) : Mo Bool := bnd a fun x => if x = true then ret true else b
def mNot (a : Mo Bool) : Mo Bool := bnd a fun x => ret (!x)
variable {ta tb : TT} {ma mb : Mo Bool}
theorem tst2 {α : Type} (ha : RefT K mg ea Wx ta ma) (S0 : Sim K mg ea io Fr s σ H) {f : Bool → Mo α} {r : Except Ex α} (e : bnd ma f s = some (r, s'))
    (hex : ∀ x, r = .error x → ∀ cls d H' io', PostX K mg ea io Fr s σ H s' σ io' H' x cls d → Wx cls d σ H')
    {R : Bool → Hp → Prop} (hR : ∀ b s1 H1 io1, f b s1 = some (r, s') → PostS K mg ea io Fr s σ H s1 σ io1 H1 → R b H1) : ta σ H R := by
  rcases bnd_some e with ⟨x, e1, rfl⟩ | ⟨b, s1, e1, e2⟩
  · exact ha σ H io Fr s S0 _ _ e1 _ (fun _ q => by cases q) fun x' q cls d H' io' px => by
      cases q
      exact hex _ rfl cls d H' io' px
  · refine ha σ H io Fr s S0 _ _ e1 _ (fun x' q H1 io1 px => ?_) (fun _ q => by cases q)
    cases q
    exact hR b s1 H1 io1 e2 px
theorem ref_and (ha : RefT K mg ea Wx ta ma) (hb : RefT K mg ea Wx tb mb) : RefT K mg ea Wx (tAnd ta tb) (mAnd ma mb) := by
  intro σ H io Fr s S0 r0 s' e Q hok hex
  refine tst2 ha S0 e hex fun b s1 H1 io1 e2 px => ?_
  cases b with
  | true => exact hb σ H1 io1 Fr s1 px.1 _ _ e2 _ (fun x q H2 io2 py => hok x q H2 io2 ⟨py.1, px.2.trans py.2⟩) fun x q cls d H2 io2 py => hex x q cls d H2 io2 ⟨py.1, px.2.trans py.2.1, py.2.2⟩
  | false => cases e2; exact hok _ rfl H1 io1 px
theorem ref_or (ha : RefT K mg ea Wx ta ma) (hb : RefT K mg ea Wx tb mb) : RefT K mg ea Wx (tOr ta tb) (mOr ma mb) := by
  intro σ H io Fr s S0 r0 s' e Q hok hex
  refine tst2 ha S0 e hex fun b s1 H1 io1 e2 px => ?_
  cases b with
  | false => exact hb σ H1 io1 Fr s1 px.1 _ _ e2 _ (fun x q H2 io2 py => hok x q H2 io2 ⟨py.1, px.2.trans py.2⟩) fun x q cls d H2 io2 py => hex x q cls d H2 io2 ⟨py.1, px.2.trans py.2.1, py.2.2⟩
  | true => cases e2; exact hok _ rfl H1 io1 px
theorem ref_not (ha : RefT K mg ea Wx ta ma) : RefT K mg ea Wx (tNot ta) (mNot ma) := by
  intro σ H io Fr s S0 r0 s' e Q hok hex
  refine tst2 ha S0 e hex fun b s1 H1 io1 e2 px => ?_
  cases e2
  exact hok _ rfl H1 io1 px
end
section
variable {X : Cx} {ea : EA} {Wx : WX} {a b c : Expr} {ma mb mc : Mo RV} {pos : Pos}
theorem pee_name (i : Nat) {x : Str} {pos : Pos} (hN : X.N[i]? = some x := by rfl) (hv : Vis X.env.scope x := by first | exact Or.inl rfl | exact Or.inr (Or.inl rfl) | exact Or.inr (Or.inr rfl)) (hd : (x == ("__debug__" : Str)) = false := by decide)
    (hcd : (x == ("__classdict__" : Str)) = false := by decide) : Pee X ea Wx (.Name x pos) (mName i) := ⟨_, pe_var hN hv hd hcd, ref_name i⟩
theorem pee_int {i j pos} : Pee X ea Wx (.Constant (.int i) j pos) (mC (.int i)) := ⟨_, pe_int, ref_c fun _ _ _ => .int i⟩
theorem pee_bl {b j pos} : Pee X ea Wx (.Constant (.bool b) j pos) (mC (.bl b)) := ⟨_, pe_bl, ref_c fun _ _ _ => .bl b⟩
theorem pee_op {op : Operator} {f : W → W → Option OR} (ho : OpM X (binaryOp op) f) (ha : Pee X ea Wx a ma) (hb : Pee X ea Wx b mb) : Pee X ea Wx (.BinOp a op b pos) (mBin f ma mb) := by
  obtain ⟨ta, pa, ra⟩ := ha.ex
  obtain ⟨tb, pb, rb⟩ := hb.ex
  obtain ⟨r, h1, h2⟩ := ho
  exact ⟨_, pe_op h1 pa pb, ref_op (X := X) (g := binaryOp op) h2 ra rb⟩
theorem pee_un {op : UnaryOp} {f : W → Option OR} (ho : UnM X (unaryOp op) f) (ha : Pee X ea Wx a ma) : Pee X ea Wx (.UnaryOp op a pos) (mUn f ma) := by
  obtain ⟨ta, pa, ra⟩ := ha.ex
  obtain ⟨r, h1, h2⟩ := ho
  exact ⟨_, pe_un h1 pa, ref_un h2 ra⟩
theorem pee_cmp {op : CmpOp} {f : W → W → Option OR} (ho : OpM X (compareOp op) f) (ha : Pee X ea Wx a ma) (hb : Pee X ea Wx b mb) (hm : behindInMarks op b = false := by first | exact nomark _ | with_unfolding_all rfl) : Pee X ea Wx (.Compare a [op] [b] pos) (mBin f ma mb) := by
  obtain ⟨ta, pa, ra⟩ := ha.ex
  obtain ⟨tb, pb, rb⟩ := hb.ex
  obtain ⟨r, h1, h2⟩ := ho
  exact ⟨_, pe_cmpR h1 pa pb hm, ref_op (X := X) (g := compareOp op) h2 ra rb⟩
theorem pet_cmp {op : CmpOp} {f : W → W → Option OR} (ho : OpM X (compareOp op) f) (ha : Pee X ea Wx a ma) (hb : Pee X ea Wx b mb) (hm : behindInMarks op b = false := by first | exact nomark _ | with_unfolding_all rfl) : Pet X ea Wx (.Compare a [op] [b] pos) (mB (mBin f ma mb)) := by
  obtain ⟨ta, pa, ra⟩ := ha.ex
  obtain ⟨tb, pb, rb⟩ := hb.ex
  obtain ⟨r, h1, h2⟩ := ho
  exact ⟨_, pt_cmpR h1 pa pb hm, ref_test (ref_op (X := X) (g := compareOp op) h2 ra rb)⟩
theorem pet_val {e : Expr} {m : Mo RV} (h : Pee X ea Wx e m) (he : ∀ whole, isTrue e X.env whole = (do let v ← whole; standAt e.pos; holding [v] (truthy v)) := by intro _; rfl) : Pet X ea Wx e (mB m) := by
  obtain ⟨t, p, r⟩ := h.ex
  exact ⟨_, pt_val p he, ref_test r⟩
variable {tma tmb : Mo Bool} {rest : List Expr}
theorem pew_and1 (ha : Pet X ea Wx a tma) : Pew X ea Wx (.BoolOp .And [a] pos) tma := let ⟨_, p, r⟩ := ha.ex; ⟨_, pw_and1 p, r⟩
theorem pew_or1 (ha : Pet X ea Wx a tma) : Pew X ea Wx (.BoolOp .Or [a] pos) tma := let ⟨_, p, r⟩ := ha.ex; ⟨_, pw_or1 p, r⟩
theorem pew_and (ha : Pet X ea Wx a tma) (hb : Pew X ea Wx (.BoolOp .And (b :: rest) pos) tmb) : Pew X ea Wx (.BoolOp .And (a :: b :: rest) pos) (mAnd tma tmb) :=
  let ⟨_, p, r⟩ := ha.ex; let ⟨_, p', r'⟩ := hb.ex; ⟨_, pw_and p p', ref_and r r'⟩
theorem pew_or (ha : Pet X ea Wx a tma) (hb : Pew X ea Wx (.BoolOp .Or (b :: rest) pos) tmb) : Pew X ea Wx (.BoolOp .Or (a :: b :: rest) pos) (mOr tma tmb) :=
  let ⟨_, p, r⟩ := ha.ex; let ⟨_, p', r'⟩ := hb.ex; ⟨_, pw_or p p', ref_or r r'⟩
theorem Pew.pt {e : Expr} {m : Mo Bool} (h : Pew X ea Wx e m) : Pet X ea Wx e m := let ⟨_, p, r⟩ := h.ex; ⟨_, p.pt, r⟩
theorem pet_not (ha : Pet X ea Wx a tma) : Pet X ea Wx (.UnaryOp .Not a pos) (mNot tma) := let ⟨_, p, r⟩ := ha.ex; ⟨_, pt_not p, ref_not r⟩
end
end Z
set_option Elab.async false
set_option linter.all false
set_option maxRecDepth 100000
namespace Z
open PySem PySem.Spec PyProof.Rows
open L2 hiding XE Takes CX takes_of passes_call passAt MkP PMk ps_raise mk_of ps_try_as ps_try_many pmk_own Takes.imp
open L2N
section
variable {K : PySem.W.Frag} {mg : Str → Option Value} {io : List Addr} {M : Addr → Prop} {H : Hp} {w : W} {v : V} {ws : List W}
theorem Rn.int {i : Int} (h : Rn K mg io M H (.int i) v) : v = .int i := by
  rcases h with h | ⟨c, o, a, e, _⟩
  · cases h; rfl
  · cases c <;> cases e
theorem Rn.bl {i : Bool} (h : Rn K mg io M H (.bl i) v) : v = .bl i := by
  rcases h with h | ⟨c, o, a, e, _⟩
  · cases h; rfl
  · cases c <;> cases e
theorem Rn.str {i : Str} (h : Rn K mg io M H (.str i) v) : v = .str i := by
  rcases h with h | ⟨c, o, a, e, _⟩
  · cases h; rfl
  · cases c <;> cases e
theorem Rn.byt {i : Array UInt8} (h : Rn K mg io M H (.byt i) v) : v = .byt i := by
  rcases h with h | ⟨c, o, a, e, _⟩
  · cases h; rfl
  · cases c <;> cases e
theorem Rn.non (h : Rn K mg io M H .non v) : v = .non := by
  rcases h with h | ⟨c, o, a, e, _⟩
  · cases h; rfl
  · cases c <;> cases e
theorem Rn.lst (h : Rn K mg io M H (.lst ws) v) : ∃ a vs, v = .ref a ∧ H a = some (.lst vs) ∧ Rws K mg io M H ws vs := by
  rcases h with h | ⟨c, o, a, e, rfl, ha, hc⟩
  · cases h with
    | lst h n l q => exact ⟨_, _, rfl, h, l, q⟩
  · cases c <;> cases e
    obtain ⟨vs, rfl, r⟩ := hc
    exact ⟨a, vs, rfl, ha, r⟩
theorem Rn.tup (h : Rn K mg io M H (.tup ws) v) : ∃ a vs, v = .ref a ∧ SqT K H a vs ∧ Rws K mg io M H ws vs := by
  rcases h with h | ⟨c, o, a, e, rfl, ha, hc⟩
  · cases h with
    | tup h l q => exact ⟨_, _, rfl, h.elim (fun z => SqT.of z.1) fun z => .inr z.1, l, q⟩
  · cases c <;> cases e
theorem Rn.tupRw (h : Rn K mg io M H (.tup ws) v) : Rw K mg io M H (.tup ws) v := by
  rcases h with h | ⟨c, o, a, e, rfl, ha, hc⟩
  · exact h
  · cases c <;> cases e
theorem Rn.tup1 (h : Rn K mg io M H (.tup (w :: ws)) v) : ∃ a vs, v = .ref a ∧ H a = some (.tup vs) ∧ Rws K mg io M H (w :: ws) vs := by
  rcases h with h | ⟨c, o, a, e, rfl, ha, hc⟩
  · cases h with
    | tup h l q =>
      rcases h with h | ⟨_, rfl⟩
      · exact ⟨_, _, rfl, h.1, l, q⟩
      · simp at l
  · cases c <;> cases e
theorem Rn.frl (h : Rn K mg io M H (.frl ws) v) : ∃ a vs, v = .ref a ∧ SqL K H a vs ∧ Rws K mg io M H ws vs := by
  rcases h with h | ⟨c, o, a, e, rfl, ha, hc⟩
  · cases h with
    | frl h l q => exact ⟨_, _, rfl, h.imp (fun z => z.1) id, l, q⟩
  · cases c <;> cases e
theorem Rn.dK {kvs : List (Key × W)} (h : Rn K mg io M H (.dK kvs) v) : ∃ a vs, v = .ref a ∧ Rd H a (.dK vs) ∧ Rkv K mg io M H kvs vs := by
  rcases h with h | ⟨c, o, a, e, rfl, ha, hc⟩
  · cases h with
    | dK h n l q => exact ⟨_, _, rfl, h, l, by simpa using congrArg List.length l, q⟩
  · cases c <;> cases e
    obtain ⟨vs, rfl, r⟩ := hc
    exact ⟨a, vs, rfl, .inl ha, r⟩
theorem Rn.dT {kvs : List (List Key × W)} (h : Rn K mg io M H (.dT kvs) v) : ∃ a vs, v = .ref a ∧ Rd H a (.dT vs) ∧ Rkv K mg io M H kvs vs := by
  rcases h with h | ⟨c, o, a, e, rfl, ha, hc⟩
  · cases h with
    | dT h n l q => exact ⟨_, _, rfl, h, l, by simpa using congrArg List.length l, q⟩
  · cases c <;> cases e
    obtain ⟨vs, rfl, r⟩ := hc
    exact ⟨a, vs, rfl, .inl ha, r⟩
theorem Rn.dF {kvs : List (List Key × W)} (h : Rn K mg io M H (.dF kvs) v) : ∃ a ob vs, v = .ref a ∧ H a = some (.frz ob (.dT vs)) ∧ ¬ M a ∧ Rkv K mg io M H kvs vs := by
  rcases h with h | ⟨c, o, a, e, rfl, ha, hc⟩
  · cases h with
    | dF h n l q => exact ⟨_, _, _, rfl, h, n, l, by simpa using congrArg List.length l, q⟩
  · cases c <;> cases e
theorem Rn.obj {nm : Str} {fs : List (Str × W)} (h : Rn K mg io M H (.obj nm fs) v) : ∃ a C dx vs, v = .ref a ∧ mg nm = some (.ref C) ∧ H a = some (.ins C dx vs) ∧ Rkv K mg io M H fs vs := by
  rcases h with h | ⟨c, o, a, e, rfl, ha, hc⟩
  · cases h with
    | obj m h n l q => exact ⟨_, _, _, _, rfl, m, h, l, by simpa using congrArg List.length l, q⟩
  · cases c <;> cases e
    obtain ⟨C, dx, vs, rfl, m, r⟩ := hc
    exact ⟨a, C, dx, vs, rfl, m, ha, r⟩
theorem Rn.seq {v : V} (h : Rn K mg io M H w v) (e : w = .lst ws ∨ w = .frl ws ∨ w = .tup ws) : ∃ a vs, v = .ref a ∧ (SqL K H a vs ∨ SqT K H a vs) ∧ Rws K mg io M H ws vs := by
  rcases e with rfl | rfl | rfl
  · obtain ⟨a, vs, e, q, r⟩ := h.lst; exact ⟨a, vs, e, .inl (.inl (.inl q)), r⟩
  · obtain ⟨a, vs, e, q, r⟩ := h.frl; exact ⟨a, vs, e, .inl q, r⟩
  · obtain ⟨a, vs, e, q, r⟩ := h.tup; exact ⟨a, vs, e, .inr q, r⟩
def seqOf : W → Option (List W)
  | .lst ws => some ws
  | .frl ws => some ws
  | .tup ws => some ws
  | _ => none
theorem seqOf_some (e : seqOf w = some ws) : w = .lst ws ∨ w = .frl ws ∨ w = .tup ws := by
  cases w <;> simp [seqOf] at e <;> subst e <;> simp
mutual
def toPD : W → Option PyData
  | .non => some .none
  | .bl b => some (.bool b)
  | .int i => some (.int i)
  | .str x => some (.str x)
  | .lst ws => (toPDs ws).map .list
  | .frl ws => (toPDs ws).map .list
  | .tup ws => (toPDs ws).map .tuple
  | _ => none
def toPDs : List W → Option (List PyData)
  | [] => some []
  | w :: ws => match toPD w, toPDs ws with
    | some d, some ds => some (d :: ds)
    | _, _ => none
end
theorem dpAll_of : ∀ {ws : List W} {vs : List V} {ds : List PyData}, ws.length = vs.length → (∀ (i : Nat) (w : W) (v : V), ws[i]? = some w → vs[i]? = some v → ∀ d, toPD w = some d → Dp K H v d) → toPDs ws = some ds → DpAll K H vs ds
  | [], [], ds, _, _, e => by simp only [toPDs, Option.some.injEq] at e; subst e; exact .nil
  | [], _ :: _, _, l, _, _ => by simp at l
  | _ :: _, [], _, l, _, _ => by simp at l
  | w :: ws, v :: vs, ds, l, h, e => by
    simp only [toPDs] at e
    cases e1 : toPD w with
    | none => rw [e1] at e; simp at e
    | some d =>
      cases e2 : toPDs ws with
      | none => rw [e1, e2] at e; simp at e
      | some ds' =>
        rw [e1, e2] at e
        simp only [Option.some.injEq] at e
        subst e
        exact .cons (h 0 w v rfl rfl d e1) (dpAll_of (by simpa using l) (fun i w' v' a b => h (i + 1) w' v' (by simpa using a) (by simpa using b)) e2)
theorem Rw.dp {d : PyData} (h : Rw K mg io M H w v) (e : toPD w = some d) : Dp K H v d := by
  induction h generalizing d with
  | non => simp only [toPD, Option.some.injEq] at e; subst e; exact .non
  | bl b => simp only [toPD, Option.some.injEq] at e; subst e; exact .bl b
  | int i => simp only [toPD, Option.some.injEq] at e; subst e; exact .int i
  | str x => simp only [toPD, Option.some.injEq] at e; subst e; exact .str x
  | byt b => simp [toPD] at e
  | tup h l _ ih =>
    simp only [toPD, Option.map_eq_some_iff] at e
    obtain ⟨ds, e1, rfl⟩ := e
    exact .tup (h.elim (fun z => SqT.of z.1) fun z => .inr z.1) (dpAll_of l (fun i w v a b d q => ih i w v a b q) e1)
  | frl h l _ ih =>
    simp only [toPD, Option.map_eq_some_iff] at e
    obtain ⟨ds, e1, rfl⟩ := e
    exact .lst (h.imp (fun z => z.1) id) (dpAll_of l (fun i w v a b d q => ih i w v a b q) e1)
  | lst h n l _ ih =>
    simp only [toPD, Option.map_eq_some_iff] at e
    obtain ⟨ds, e1, rfl⟩ := e
    exact .lst (SqL.of h) (dpAll_of l (fun i w v a b d q => ih i w v a b q) e1)
  | dK h n l _ ih => simp [toPD] at e
  | dT h n l _ ih => simp [toPD] at e
  | dF h n l _ ih => simp [toPD] at e
  | obj m h n l _ ih => simp [toPD] at e
  | slt m h n h2 n2 l _ ih => simp [toPD] at e
  | ref h => simp [toPD] at e
theorem Rn.dp {d : PyData} (h : Rn K mg io M H w v) (e : toPD w = some d) : Dp K H v d := by
  rcases h with h | ⟨c, o, a, rfl, rfl, ha, hc⟩
  · exact h.dp e
  · cases c with
    | lst ws =>
      obtain ⟨vs, rfl, r⟩ := hc
      simp only [Cell.toW, toPD, Option.map_eq_some_iff] at e
      obtain ⟨ds, e1, rfl⟩ := e
      exact .lst (SqL.of ha) (dpAll_of r.1 (fun i w v a b d q => (r.2 i w v a b).dp q) e1)
    | dK ws => simp [toPD] at e
    | dT ws => simp [toPD] at e
    | ins nm ws => simp [toPD] at e
end
instance (i j : Int) : Decidable (CMul i j) := by unfold CMul; infer_instance
instance (i j : Int) : Decidable (CDivW i j) := by unfold CDivW; infer_instance
instance (i j : Int) : Decidable (CPow i j) := by unfold CPow; infer_instance
def fI (g : Int → Int → Int) : W → W → Option OR
  | .int i, .int j => some (.imm (.int (g i j)))
  | _, _ => none
def fIC (C : Int → Int → Prop) [∀ i j, Decidable (C i j)] (g : Int → Int → Int) : W → W → Option OR
  | .int i, .int j => if C i j then some (.imm (.int (g i j))) else none
  | _, _ => none
def fIB (g : Int → Int → Bool) : W → W → Option OR
  | .int i, .int j => some (.imm (.bl (g i j)))
  | _, _ => none
section
variable {X : Cx}
theorem om_I {g : Int → Int → Int} {op : Value → Value → Sem Value} (h : OpR X op (rI0 fun i j => .int (g i j))) : OpM X op (fI g) := by
  refine ⟨_, h, fun io M H x y vx vy z Q rx ry e q => ?_⟩
  unfold fI at e
  split at e
  · rename_i i j
    cases e
    exact ⟨i, j, rx.int, ry.int, q _ (.int _)⟩
  · cases e
theorem om_IC {C : Int → Int → Prop} [∀ i j, Decidable (C i j)] {g : Int → Int → Int} {op : Value → Value → Sem Value} (h : OpR X op (rI C fun i j => .int (g i j))) : OpM X op (fIC C g) := by
  refine ⟨_, h, fun io M H x y vx vy z Q rx ry e q => ?_⟩
  unfold fIC at e
  split at e
  · rename_i i j
    split at e
    · rename_i hc
      cases e
      exact ⟨i, j, rx.int, ry.int, hc, q _ (.int _)⟩
    · cases e
  · cases e
theorem om_IB {g : Int → Int → Bool} {op : Value → Value → Sem Value} (h : OpR X op (rI0 fun i j => .bl (g i j))) : OpM X op (fIB g) := by
  refine ⟨_, h, fun io M H x y vx vy z Q rx ry e q => ?_⟩
  unfold fIB at e
  split at e
  · rename_i i j
    cases e
    exact ⟨i, j, rx.int, ry.int, q _ (.bl _)⟩
  · cases e
def fU (g : Int → Int) : W → Option OR
  | .int i => some (.imm (.int (g i)))
  | _ => none
theorem um_I {g : Int → Int} {op : Value → Sem Value} (h : UnR X op (rU fun i => .int (g i))) : UnM X op (fU g) := by
  refine ⟨_, h, fun io M H x vx z Q rx e q => ?_⟩
  unfold fU at e
  split at e
  · rename_i i
    cases e
    exact ⟨i, rx.int, q _ (.int _)⟩
  · cases e
def sz : Nat := 16777216
theorem sz_eq : sizeLine = sz := sizeLine_eq
def fAddS : W → W → Option OR
  | .str a, .str b => if a.length + b.length ≤ sz then some (.imm (.str (a ++ b))) else none
  | _, _ => none
theorem om_addS : OpM X (binaryOp .Add) fAddS := by
  refine ⟨_, op_add_str, fun io M H x y vx vy z Q rx ry e q => ?_⟩
  unfold fAddS at e
  split at e
  · split at e
    · rename_i h
      cases e
      exact ⟨_, _, rx.str, ry.str, by rw [sz_eq]; exact h, q _ (.str _)⟩
    · cases e
  · cases e
def fAddL : W → W → Option OR
  | .lst a, .lst b => if a.length + b.length ≤ sz then some (.newl (a ++ b)) else none
  | _, _ => none
theorem om_addL : OpM X (binaryOp .Add) fAddL := by
  refine ⟨_, op_cat, fun io M H x y vx vy z Q rx ry e q => ?_⟩
  unfold fAddL at e
  split at e
  · split at e
    · rename_i h
      cases e
      obtain ⟨a, vs, rfl, ha, r1⟩ := rx.lst
      obtain ⟨b, us, rfl, hb, r2⟩ := ry.lst
      exact ⟨a, b, vs, us, rfl, rfl, ha, hb, by rw [sz_eq, ← r1.1, ← r2.1]; exact h, fun p hp => q p _ hp (r1.append r2)⟩
    · cases e
  · cases e
def fAddT : W → W → Option OR
  | .tup [], .tup bs => if bs.length ≤ sz then some (.imm (.tup bs)) else none
  | .tup (a :: as), .tup [] => if (a :: as).length ≤ sz then some (.imm (.tup (a :: as))) else none
  | .tup (a :: as), .tup (b :: bs) => if (a :: as).length + (b :: bs).length ≤ sz then some (.newt (a :: as ++ b :: bs)) else none
  | _, _ => none
theorem om_addT : OpM X (binaryOp .Add) fAddT := by
  refine ⟨_, op_catA, fun io M H x y vx vy z Q rx ry e q => ?_⟩
  unfold fAddT at e
  split at e
  · split at e
    · rename_i h
      cases e
      have rw := ry.tupRw
      obtain ⟨a, vs, rfl, ha, r1⟩ := rx.tup
      obtain ⟨b, us, rfl, hb, r2⟩ := ry.tup
      have hv : vs = [] := by have := r1.1; simpa using this.symm
      subst hv
      refine ⟨a, b, [], us, rfl, rfl, ha, hb, by rw [sz_eq, ← r2.1]; simpa using h, fun _ => q _ rw, fun z => absurd rfl z, fun z => absurd rfl z⟩
    · cases e
  · split at e
    · rename_i h
      cases e
      have rw := rx.tupRw
      obtain ⟨a, vs, rfl, ha, r1⟩ := rx.tup
      obtain ⟨b, us, rfl, hb, r2⟩ := ry.tup
      have hu : us = [] := by have := r2.1; simpa using this.symm
      subst hu
      refine ⟨a, b, vs, [], rfl, rfl, ha, hb, by rw [sz_eq, ← r1.1]; simpa using h, fun z => ?_, fun _ _ => q _ rw, fun _ z => absurd rfl z⟩
      have := r1.1; rw [z] at this; simp at this
    · cases e
  · split at e
    · rename_i h
      cases e
      obtain ⟨a, vs, rfl, ha, r1⟩ := rx.tup
      obtain ⟨b, us, rfl, hb, r2⟩ := ry.tup
      refine ⟨a, b, vs, us, rfl, rfl, ha, hb, by rw [sz_eq, ← r1.1, ← r2.1]; exact h, fun z => ?_, fun _ z => ?_, fun _ _ p hp => q p _ hp (r1.append r2)⟩
      · have := r1.1; rw [z] at this; simp at this
      · have := r2.1; rw [z] at this; simp at this
    · cases e
  · cases e
def fAdd : W → W → Option OR := orf (fI fun i j => i + j) (orf fAddS (orf fAddL fAddT))
theorem om_add : OpM X (binaryOp .Add) fAdd := (om_I op_add).or (om_addS.or (om_addL.or om_addT))
def fSub : W → W → Option OR := fI fun i j => i - j
theorem om_sub : OpM X (binaryOp .Sub) fSub := om_I op_sub
def repW (ws : List W) (k : Nat) : List W := (List.replicate k ws).flatten
def fRepL : W → W → Option OR
  | .lst a, .int k => if -(2 ^ 63) ≤ k ∧ k < 2 ^ 63 ∧ a.length * k.toNat ≤ sz then some (.newl (repW a k.toNat)) else none
  | _, _ => none
end
end Z
set_option Elab.async false
set_option linter.all false
set_option maxRecDepth 100000
namespace Z
open PySem PySem.Spec PyProof.Rows
open L2 hiding XE Takes CX takes_of passes_call passAt MkP PMk ps_raise mk_of ps_try_as ps_try_many pmk_own Takes.imp
open L2N
section
variable {X : Cx}
theorem Rws.rep {K : PySem.W.Frag} {mg : Str → Option Value} {io : List Addr} {M : Addr → Prop} {H : Hp} {ws : List W} {vs : List V} (h : Rws K mg io M H ws vs) : ∀ k : Nat, Rws K mg io M H (repW ws k) (List.replicate k vs).flatten
  | 0 => Rws.nil
  | k + 1 => by
    unfold repW
    rw [List.replicate_succ, List.replicate_succ, List.flatten_cons, List.flatten_cons]
    exact h.append (Rws.rep h k)
theorem om_repL : OpM X (binaryOp .Mult) fRepL := by
  refine ⟨_, op_rep, fun io M H x y vx vy z Q rx ry e q => ?_⟩
  unfold fRepL at e
  split at e
  · split at e
    · rename_i h
      cases e
      obtain ⟨a, vs, rfl, ha, r1⟩ := rx.lst
      exact ⟨a, _, vs, rfl, ry.int, ha, h.1, h.2.1, by rw [sz_eq, ← r1.1]; exact h.2.2, fun p hp => q p _ hp (r1.rep _)⟩
    · cases e
  · cases e
def fMul : W → W → Option OR := orf (fIC CMul fun i j => i * j) fRepL
theorem om_mul : OpM X (binaryOp .Mult) fMul := (om_IC op_mul).or om_repL
def fDiv : W → W → Option OR := fIC CDivW fun i j => i / j
theorem om_div : OpM X (binaryOp .FloorDiv) fDiv := om_IC op_fdivW
def fMod : W → W → Option OR := fIC (fun _ j => 0 < j) fun i j => i % j
theorem om_mod : OpM X (binaryOp .Mod) fMod := om_IC op_mod
def fPow : W → W → Option OR := fIC CPow fun i j => i ^ j.toNat
theorem om_pow : OpM X (binaryOp .Pow) fPow := om_IC op_pow
def fNeg : W → Option OR := fU fun i => -i
theorem um_neg : UnM X (unaryOp .USub) fNeg := um_I un_neg
def fLt : W → W → Option OR := fIB fun i j => decide (i < j)
theorem om_lt : OpM X (compareOp .Lt) fLt := om_IB op_lt
def fLe : W → W → Option OR := fIB fun i j => decide (i ≤ j)
theorem om_le : OpM X (compareOp .LtE) fLe := om_IB op_le
def eqP (x y : W) : Option Bool := match toPD x, toPD y with
  | some d, some e => if SeqAt.shaped d = true ∧ SeqAt.shaped e = true then some (PyData.eqv d e) else none
  | _, _ => none
theorem eqP_some {x y : W} {b : Bool} (h : eqP x y = some b) : ∃ d e, toPD x = some d ∧ toPD y = some e ∧ SeqAt.shaped d = true ∧ SeqAt.shaped e = true ∧ b = PyData.eqv d e := by
  unfold eqP at h
  split at h
  · rename_i d e h1 h2
    split at h
    · rename_i h3
      cases h
      exact ⟨d, e, h1, h2, h3.1, h3.2, rfl⟩
    · cases h
  · cases h
def fEqD (x y : W) : Option OR := (eqP x y).map fun b => .imm (.bl b)
def fNeD (x y : W) : Option OR := (eqP x y).map fun b => .imm (.bl (!b))
theorem om_eqD (hu : X.A.units + 64 < cLine) : OpM X (compareOp .Eq) fEqD := by
  refine ⟨_, op_eqD hu, fun io M H x y vx vy z Q rx ry e q => ?_⟩
  unfold fEqD at e
  obtain ⟨b, e1, rfl⟩ := Option.map_eq_some_iff.mp e
  obtain ⟨d, e', h1, h2, h3, h4, rfl⟩ := eqP_some e1
  exact ⟨d, e', rx.dp h1, ry.dp h2, h3, h4, q _ (.bl _)⟩
theorem om_neD (hu : X.A.units + 64 < cLine) : OpM X (compareOp .NotEq) fNeD := by
  refine ⟨_, op_neD hu, fun io M H x y vx vy z Q rx ry e q => ?_⟩
  unfold fNeD at e
  obtain ⟨b, e1, rfl⟩ := Option.map_eq_some_iff.mp e
  obtain ⟨d, e', h1, h2, h3, h4, rfl⟩ := eqP_some e1
  exact ⟨d, e', rx.dp h1, ry.dp h2, h3, h4, q _ (.bl _)⟩
def anyP (x : W) (ws : List W) : Option Bool := match toPD x, toPDs ws with
  | some d, some ds => if SeqAt.shaped d = true ∧ SeqAt.shaped (.list ds) = true then some (ds.any fun z => PyData.eqv z d) else none
  | _, _ => none
def fInL (neg : Bool) : W → W → Option OR
  | x, .lst ws => (anyP x ws).map fun b => .imm (.bl (b != neg))
  | x, .frl ws => (anyP x ws).map fun b => .imm (.bl (b != neg))
  | _, _ => none
theorem anyP_some {x : W} {ws : List W} {b : Bool} (h : anyP x ws = some b) : ∃ d ds, toPD x = some d ∧ toPDs ws = some ds ∧ SeqAt.shaped d = true ∧ SeqAt.shaped (.list ds) = true ∧ b = ds.any fun z => PyData.eqv z d := by
  unfold anyP at h
  split at h
  · rename_i d e h1 h2
    split at h
    · rename_i h3
      cases h
      exact ⟨d, e, h1, h2, h3.1, h3.2, rfl⟩
    · cases h
  · cases h
theorem om_inL (hu : X.A.units + 65 < cLine) : OpM X (compareOp .In) (fInL false) := by
  refine ⟨_, op_inD hu, fun io M H x y vx vy z Q rx ry e q => ?_⟩
  unfold fInL at e
  split at e
  · obtain ⟨b, e1, rfl⟩ := Option.map_eq_some_iff.mp e
    obtain ⟨d, ds, h1, h2, h3, h4, rfl⟩ := anyP_some e1
    refine ⟨d, ds, rx.dp h1, ry.dp (by simp [toPD, h2]), h3, h4, ?_⟩
    simpa using q _ (.bl _)
  · obtain ⟨b, e1, rfl⟩ := Option.map_eq_some_iff.mp e
    obtain ⟨d, ds, h1, h2, h3, h4, rfl⟩ := anyP_some e1
    refine ⟨d, ds, rx.dp h1, ry.dp (by simp [toPD, h2]), h3, h4, ?_⟩
    simpa using q _ (.bl _)
  · cases e
def toV : W → Option V
  | .non => some .non
  | .bl b => some (.bl b)
  | .int i => some (.int i)
  | .str x => some (.str x)
  | _ => none
def toVs : List W → Option (List V)
  | [] => some []
  | w :: ws => match toV w, toVs ws with
    | some v, some vs => some (v :: vs)
    | _, _ => none
theorem Rw.toV {K : PySem.W.Frag} {mg : Str → Option Value} {io : List Addr} {M : Addr → Prop} {H : Hp} {w : W} {v u : V} (h : Rw K mg io M H w v) (e : Z.toV w = some u) : v = u ∧ flatV u = true := by
  cases h <;> simp [Z.toV] at e <;> subst e <;> exact ⟨rfl, rfl⟩
theorem Rn.toV {K : PySem.W.Frag} {mg : Str → Option Value} {io : List Addr} {M : Addr → Prop} {H : Hp} {w : W} {v u : V} (h : Rn K mg io M H w v) (e : Z.toV w = some u) : v = u ∧ flatV u = true := by
  rcases h with h | ⟨c, o, a, rfl, rfl, ha, hc⟩
  · exact h.toV e
  · cases c <;> simp [Z.toV] at e
theorem Rws.toVs {K : PySem.W.Frag} {mg : Str → Option Value} {io : List Addr} {M : Addr → Prop} {H : Hp} : ∀ {ws : List W} {vs us : List V}, Rws K mg io M H ws vs → Z.toVs ws = some us → vs = us ∧ us.all flatV = true
  | [], vs, us, h, e => by
    rw [h.nil_inv]
    simp only [Z.toVs, Option.some.injEq] at e
    subst e
    exact ⟨rfl, rfl⟩
  | w :: ws, vs, us, h, e => by
    obtain ⟨v, r, rfl, h1, h2⟩ := h.cons_inv
    simp only [Z.toVs] at e
    cases e1 : Z.toV w with
    | none => rw [e1] at e; simp at e
    | some u =>
      cases e2 : Z.toVs ws with
      | none => rw [e1, e2] at e; simp at e
      | some us' =>
        rw [e1, e2] at e
        simp only [Option.some.injEq] at e
        subst e
        obtain ⟨rfl, f1⟩ := h1.toV e1
        obtain ⟨rfl, f2⟩ := Rws.toVs h2 e2
        exact ⟨rfl, by simp [f1, f2]⟩
def fInT (neg : Bool) : W → W → Option OR
  | x, .tup ws => match Z.toV x, Z.toVs ws with
    | some v, some vs => some (.imm (.bl (inV v vs != neg)))
    | _, _ => none
  | _, _ => none
theorem om_inT : OpM X (compareOp .In) (fInT false) := by
  refine ⟨_, op_in_seq, fun io M H x y vx vy z Q rx ry e q => ?_⟩
  unfold fInT at e
  split at e
  · split at e
    · rename_i h1 h2
      cases e
      obtain ⟨a, vs, rfl, ha, r⟩ := ry.tup
      obtain ⟨rfl, f1⟩ := rx.toV h1
      obtain ⟨rfl, f2⟩ := r.toVs h2
      refine ⟨a, _, rfl, .inr ha, f1, f2, ?_⟩
      simpa using q _ (.bl _)
    · cases e
  · cases e
def keyOf : W → Option Key
  | .int i => some (.inl i)
  | .str x => some (.inr x)
  | _ => none
def keysOf : List W → Option (List Key)
  | [] => some []
  | w :: ws => match keyOf w, keysOf ws with
    | some v, some vs => some (v :: vs)
    | _, _ => none
theorem Rn.key {K : PySem.W.Frag} {mg : Str → Option Value} {io : List Addr} {M : Addr → Prop} {H : Hp} {w : W} {v : V} {k : Key} (h : Rn K mg io M H w v) (e : keyOf w = some k) : v = kV k := by
  rcases h with h | ⟨c, o, a, rfl, rfl, ha, hc⟩
  · cases h <;> simp [keyOf] at e <;> subst e <;> rfl
  · cases c <;> simp [keyOf] at e
theorem Rws.keys {K : PySem.W.Frag} {mg : Str → Option Value} {io : List Addr} {M : Addr → Prop} {H : Hp} : ∀ {ws : List W} {vs : List V} {ks : List Key}, Rws K mg io M H ws vs → keysOf ws = some ks → vs = ks.map kV
  | [], vs, ks, h, e => by
    rw [h.nil_inv]
    simp only [keysOf, Option.some.injEq] at e
    subst e
    rfl
  | w :: ws, vs, ks, h, e => by
    obtain ⟨v, r, rfl, h1, h2⟩ := h.cons_inv
    simp only [keysOf] at e
    cases e1 : keyOf w with
    | none => rw [e1] at e; simp at e
    | some u =>
      cases e2 : keysOf ws with
      | none => rw [e1, e2] at e; simp at e
      | some us' =>
        rw [e1, e2] at e
        simp only [Option.some.injEq] at e
        subst e
        rw [(Rn.key (.inl h1) e1), Rws.keys h2 e2]
        rfl
def tkOf : W → Option (List Key)
  | .tup (w :: ws) => keysOf (w :: ws)
  | _ => none
def valW {κ : Type} [DecidableEq κ] (kvs : List (κ × W)) (k : κ) : Option W := (kvs.find? fun kv => decide (kv.1 = k)).map (·.2)
theorem Rkv.valW {κ : Type} [DecidableEq κ] {K : PySem.W.Frag} {mg : Str → Option Value} {io : List Addr} {M : Addr → Prop} {H : Hp} {k : κ} : ∀ {ws : List (κ × W)} {vs : List (κ × V)}, Rkv K mg io M H ws vs →
    (Z.valW ws k).isSome = (valV vs k).isSome ∧ ∀ w, Z.valW ws k = some w → ∃ v, valV vs k = some v ∧ Rw K mg io M H w v
  | [], vs, h => by rw [h.nil_inv]; exact ⟨rfl, fun w e => by simp [Z.valW] at e⟩
  | (k', w') :: ws, vs, h => by
    obtain ⟨v, r, rfl, h1, h2⟩ := h.cons_inv
    by_cases q : k' = k
    · refine ⟨?_, fun w e => ?_⟩
      · rw [valV_pos (p := (k', v)) q]; simp [Z.valW, q]
      · simp [Z.valW, q] at e
        subst e
        exact ⟨v, valV_pos (p := (k', v)) q, h1⟩
    · obtain ⟨i1, i2⟩ := Rkv.valW h2
      have e0 : Z.valW ((k', w') :: ws) k = Z.valW ws k := by simp [Z.valW, q]
      rw [e0, valV_neg (p := (k', v)) q]
      exact ⟨i1, i2⟩
def dLook : W → W → Option (Option W)
  | .dK kvs, k => (keyOf k).map fun k => valW kvs k
  | .dT kvs, k => (tkOf k).map fun k => valW kvs k
  | .dF kvs, k => (tkOf k).map fun k => valW kvs k
  | _, _ => none
theorem tk_inv {k : W} {ks : List Key} (h : tkOf k = some ks) : ∃ w ws, k = .tup (w :: ws) ∧ keysOf (w :: ws) = some ks := by
  unfold tkOf at h
  split at h
  · exact ⟨_, _, rfl, h⟩
  · cases h
theorem dLook_ok {K : PySem.W.Frag} {mg : Str → Option Value} {io : List Addr} {M : Addr → Prop} {H : Hp} {d k : W} {vd vk : V} {r : Option W} (hd : Rn K mg io M H d vd) (hk : Rn K mg io M H k vk) (e : dLook d k = some r) :
    ∃ a o, vd = .ref a ∧ DGet H a vk o ∧ o.isSome = r.isSome ∧ ∀ w, r = some w → ∃ v, o = some v ∧ Rw K mg io M H w v := by
  unfold dLook at e
  split at e
  · obtain ⟨k', e1, rfl⟩ := Option.map_eq_some_iff.mp e
    obtain ⟨a, vs, rfl, ha, rr⟩ := hd.dK
    obtain ⟨i1, i2⟩ := rr.valW (k := k')
    exact ⟨a, valV vs k', rfl, .inl ⟨vs, k', ha, hk.key e1, rfl⟩, i1.symm, i2⟩
  · obtain ⟨k', e1, rfl⟩ := Option.map_eq_some_iff.mp e
    obtain ⟨a, vs, rfl, ha, rr⟩ := hd.dT
    obtain ⟨i1, i2⟩ := rr.valW (k := k')
    obtain ⟨w, ws, rfl, e2⟩ := tk_inv e1
    obtain ⟨b, us, rfl, hb, r2⟩ := hk.tup1
    exact ⟨a, valV vs k', rfl, .inr ⟨vs, k', b, ha, rfl, by rw [hb, r2.keys e2], rfl⟩, i1.symm, i2⟩
  · obtain ⟨k', e1, rfl⟩ := Option.map_eq_some_iff.mp e
    obtain ⟨a, ob, vs, rfl, ha, _, rr⟩ := hd.dF
    obtain ⟨i1, i2⟩ := rr.valW (k := k')
    obtain ⟨w, ws, rfl, e2⟩ := tk_inv e1
    obtain ⟨b, us, rfl, hb, r2⟩ := hk.tup1
    exact ⟨a, valV vs k', rfl, .inr ⟨vs, k', b, .inr ⟨ob, ha⟩, rfl, by rw [hb, r2.keys e2], rfl⟩, i1.symm, i2⟩
  · cases e
def fInD (neg : Bool) : W → W → Option OR := fun k d => (dLook d k).map fun r => .imm (.bl (r.isSome != neg))
theorem om_inDict (hu : X.A.units + 1 < cLine) : OpM X (compareOp .In) (fInD false) := by
  refine ⟨fun y x H Q => ∃ a o, x = .ref a ∧ DGet H a y o ∧ Q (.bl o.isSome) H, ?_, fun io M H x y vx vy z Q rx ry e q => ?_⟩
  · intro pins s σ H x y v u Q I rx ry h
    obtain ⟨a, o, rfl, g, q⟩ := h
    cases ry
    exact d_in hu I g rx fun s' I' => ⟨.bl o.isSome, H, I', rfl, q⟩
  · obtain ⟨r, e1, rfl⟩ := Option.map_eq_some_iff.mp e
    obtain ⟨a, o, rfl, g, h1, _⟩ := dLook_ok ry rx e1
    refine ⟨a, o, rfl, g, ?_⟩
    rw [h1]
    simpa using q _ (.bl _)
def fIn (neg : Bool) : W → W → Option OR := orf (fInL neg) (orf (fInT neg) (fInD neg))
theorem om_in (hu : X.A.units + 65 < cLine) : OpM X (compareOp .In) (fIn false) := (om_inL hu).or (om_inT.or (om_inDict (by omega)))
def IxM (X : Cx) (f : W → W → Option OR) : Prop :=
  ∃ r : R2, IxR X r ∧ ∀ io M H x y vx vy z Q, Rn X.K X.mg io M H x vx → Rn X.K X.mg io M H y vy → f x y = some z → OQ X.K X.mg io M H z Q → r vx vy H Q
theorem IxM.or {f f' : W → W → Option OR} (h : IxM X f) (h' : IxM X f') : IxM X (orf f f') := by
  obtain ⟨r, a, b⟩ := h
  obtain ⟨r', a', b'⟩ := h'
  refine ⟨_, a.or a', fun io M H x y vx vy z Q rx ry e q => ?_⟩
  unfold orf at e
  cases k : f x y with
  | some z' =>
    rw [k] at e
    cases e
    exact .inl (b io M H x y vx vy z Q rx ry k q)
  | none =>
    rw [k] at e
    exact .inr (b' io M H x y vx vy z Q rx ry e q)
theorem Rws.atI {K : PySem.W.Frag} {mg : Str → Option Value} {io : List Addr} {M : Addr → Prop} {H : Hp} {ws : List W} {vs : List V} {i : Int} {w : W} (r : Rws K mg io M H ws vs) (e : L2.atI ws i = some w) : ∃ v, L2.atI vs i = some v ∧ Rw K mg io M H w v := by
  unfold L2.atI at e ⊢
  obtain ⟨j, e1, e2⟩ := Option.bind_eq_some_iff.mp e
  obtain ⟨v, h1, h2⟩ := r.get e2
  exact ⟨v, by rw [← r.1, e1]; exact h1, h2⟩
def fIxS : W → W → Option OR
  | .lst ws, .int i => (atI ws i).map .imm
  | .frl ws, .int i => (atI ws i).map .imm
  | .tup ws, .int i => (atI ws i).map .imm
  | .str z, .int i => if z.length ≤ sz then (atI z.cps.toList i).map fun c => .imm (.str ⟨#[c]⟩) else none
  | _, _ => none
theorem xm_seq : IxM X fIxS := by
  refine ⟨_, ix_seq, fun io M H x y vx vy z Q rx ry e q => ?_⟩
  unfold fIxS at e
  split at e
  · obtain ⟨w, e1, rfl⟩ := Option.map_eq_some_iff.mp e
    obtain ⟨a, vs, rfl, ha, r⟩ := rx.lst
    obtain ⟨v, h1, h2⟩ := r.atI e1
    exact .inl ⟨a, vs, _, v, rfl, ry.int, SqL.of ha, h1, q v h2⟩
  · obtain ⟨w, e1, rfl⟩ := Option.map_eq_some_iff.mp e
    obtain ⟨a, vs, rfl, ha, r⟩ := rx.frl
    obtain ⟨v, h1, h2⟩ := r.atI e1
    exact .inl ⟨a, vs, _, v, rfl, ry.int, ha, h1, q v h2⟩
  · obtain ⟨w, e1, rfl⟩ := Option.map_eq_some_iff.mp e
    obtain ⟨a, vs, rfl, ha, r⟩ := rx.tup
    obtain ⟨v, h1, h2⟩ := r.atI e1
    exact .inr (.inl ⟨a, vs, _, v, rfl, ry.int, ha, h1, q v h2⟩)
  · split at e
    · rename_i hz
      obtain ⟨w, e1, rfl⟩ := Option.map_eq_some_iff.mp e
      exact .inr (.inr ⟨_, _, w, rx.str, ry.int, by rw [sz_eq]; exact hz, e1, q _ (.str _)⟩)
    · cases e
  · cases e
def fIxD : W → W → Option OR := fun d k => (dLook d k).bind fun r => r.map .imm
theorem xm_dict (hu : X.A.units + 1 < cLine) : IxM X fIxD := by
  refine ⟨fun x y H Q => ∃ a v, x = .ref a ∧ DGet H a y (some v) ∧ Q v H, ?_, fun io M H x y vx vy z Q rx ry e q => ?_⟩
  · intro value slice pins s σ H x y v u Q I rx ry h hs
    obtain ⟨a, z, rfl, g, q⟩ := h
    cases rx
    exact tail_any (dict_typeIs I g) PySem.F.slot_dict_getitem.lookup (d_getItem hu I g ry fun w' s' I' r => ⟨z, H, I', r, q⟩) hs
  · obtain ⟨r, e1, e2⟩ := Option.bind_eq_some_iff.mp e
    obtain ⟨w, rfl, rfl⟩ := Option.map_eq_some_iff.mp e2
    obtain ⟨a, o, rfl, g, _, h2⟩ := dLook_ok rx ry e1
    obtain ⟨v, rfl, hv⟩ := h2 w rfl
    exact ⟨a, v, rfl, g, q v hv⟩
def fIx : W → W → Option OR := orf fIxS fIxD
theorem xm_ix (hu : X.A.units + 1 < cLine) : IxM X fIx := xm_seq.or (xm_dict hu)
end
section
variable {X : Cx} {ea : EA} {Wx : WX} {a b c : Expr} {ma mb mc : Mo RV} {pos : Pos}
theorem pee_ix {f : W → W → Option OR} (ho : IxM X f) (ha : Pee X ea Wx a ma) (hb : Pee X ea Wx b mb) (hs : PlainIx b := by exact fun _ _ => rfl) : Pee X ea Wx (.Subscript a b pos) (mBin f ma mb) := by
  obtain ⟨ta, pa, ra⟩ := ha.ex
  obtain ⟨tb, pb, rb⟩ := hb.ex
  obtain ⟨r, h1, h2⟩ := ho
  exact ⟨_, pe_ix h1 pa pb hs, ref_op (X := X) (g := fun _ _ => pure .none) h2 ra rb⟩
end
end Z
set_option Elab.async false
set_option linter.all false
set_option maxRecDepth 100000
namespace Z
open PySem PySem.Spec PyProof.Rows
open L2 hiding XE Takes CX takes_of passes_call passAt MkP PMk ps_raise mk_of ps_try_as ps_try_many pmk_own Takes.imp
open L2N
section
variable {K : PySem.W.Frag} {mg : Str → Option Value} {ea : EA} {io io' : List Addr} {Fr Fr' : Addr → Prop} {s s' s2 : S} {σ σ' : L2.St} {H H' : Hp} {w : W} {v : V} {c : Cell} {o : HO} {a p : Addr}
def mNil : Mo (List RV) := ret []
def mCons (m : Mo RV) (ms : Mo (List RV)) : Mo (List RV) := bnd m fun x => bnd ms fun xs => ret (settle x :: xs)
def freezeAll : List RV → Mo (List W)
  | [] => ret []
  | x :: xs => bnd (freeze x) fun w => bnd (freezeAll xs) fun ws => ret (w :: ws)
def lookAll : List RV → Mo (List W)
  | [] => ret []
  | x :: xs => bnd (look x) fun w => bnd (lookAll xs) fun ws => ret (w :: ws)
variable {Wx : WX}
theorem ref_nil : RefA K mg ea Wx tNil mNil := by
  intro σ H io Fr s S0 r0 s' e Q hok hex
  cases e
  exact hok _ rfl [] H io ⟨S0, .refl⟩ .nil
theorem ref_cons {te : TE} {m : Mo RV} {ta : TA} {ms : Mo (List RV)} (h : RefE K mg ea Wx te m) (t : RefA K mg ea Wx ta ms) : RefA K mg ea Wx (tCons te ta) (mCons m ms) := by
  intro σ H io Fr s S0 r0 s' e Q hok hex
  rcases bnd_some e with ⟨x, e1, rfl⟩ | ⟨x, s1, e1, e2⟩
  · exact h σ H io Fr s S0 _ _ e1 _ (fun _ q => by cases q) fun x' q cls d H' io' px => by
      cases q
      exact hex _ rfl cls d H' io' px
  · refine h σ H io Fr s S0 _ _ e1 _ (fun x' q vx H1 io1 px => ?_) (fun _ q => by cases q)
    cases q
    obtain ⟨S1, T1, R1⟩ := px.settled
    rcases bnd_some e2 with ⟨y, e3, rfl⟩ | ⟨ys, s2, e3, e4⟩
    · exact t σ H1 io1 Fr s1 S1 _ _ e3 _ (fun _ q => by cases q) fun x' q cls d H' io' py => by
        cases q
        exact hex _ rfl cls d H' io' ⟨py.1, T1.trans py.2.1, py.2.2⟩
    · refine t σ H1 io1 Fr s1 S1 _ _ e3 _ (fun y' q vy H2 io2 py R2 => ?_) (fun _ q => by cases q)
      cases q
      cases e4
      exact hok _ rfl _ H2 io2 ⟨py.1, T1.trans py.2⟩ (.cons (R1.pers py.2.p) R2)
theorem RvR.less {x : RV} {M M' : Addr → Prop} (h : ∀ b, M' b → M b) (r : RvR K mg io M σ H x v) : RvR K mg io M' σ H x v := r.pers (.less h)
theorem paired_mono {α β : Type} {F G : α → β → Prop} (h : ∀ a b, F a b → G a b) {xs : List α} {ys : List β} (p : Paired F xs ys) : Paired G xs ys := Paired.mapP p h
theorem freezeAll_ok : ∀ {xs : List RV} {vs : List V} {s s' : S} {r : Except Ex (List W)}, Sim K mg ea io Fr s σ H → Paired (RvR K mg io (Ms io Fr s σ) σ H) xs vs → freezeAll xs s = some (r, s') →
    s'.G = s.G ∧ (∀ b, Ms io Fr s' σ b → Ms io Fr s σ b) ∧ Sim K mg ea io Fr s' σ H ∧ ∃ ws, r = .ok ws ∧ Rws K mg io (Ms io Fr s' σ) H ws vs
  | [], vs, s, s', r, S0, p, e => by
    cases p
    cases e
    exact ⟨rfl, fun _ z => z, S0, [], rfl, Rws.nil⟩
  | x :: xs, vs, s, s', r, S0, p, e => by
    cases p with
    | cons p1 p2 =>
      rename_i v vs
      rcases bnd_some e with ⟨z, e1, rfl⟩ | ⟨w, s1, e1, e2⟩
      · obtain ⟨_, _, _, _, q, _⟩ := freeze_ok S0 p1 e1
        cases q
      · obtain ⟨g1, m1, S1, w', q, r1⟩ := freeze_ok S0 p1 e1
        cases q
        rcases bnd_some e2 with ⟨z, e3, rfl⟩ | ⟨ws, s2, e3, e4⟩
        · obtain ⟨_, _, _, _, q, _⟩ := freezeAll_ok S1 (paired_mono (fun a b z => z.less m1) p2) e3
          cases q
        · obtain ⟨g2, m2, S2, ws', q, r2⟩ := freezeAll_ok S1 (paired_mono (fun a b z => z.less m1) p2) e3
          cases q
          cases e4
          exact ⟨g2.trans g1, fun b z => m1 b (m2 b z), S2, _, rfl, Rws.cons (r1.pers (.less m2)) r2⟩
theorem lookAll_ok : ∀ {xs : List RV} {vs : List V} {s s' : S} {r : Except Ex (List W)}, Sim K mg ea io Fr s σ H → Paired (RvR K mg io (Ms io Fr s σ) σ H) xs vs → lookAll xs s = some (r, s') →
    s' = s ∧ ∃ ws, r = .ok ws ∧ Paired (Rn K mg io (Ms io Fr s σ) H) ws vs
  | [], vs, s, s', r, S0, p, e => by
    cases p
    cases e
    exact ⟨rfl, [], rfl, .nil⟩
  | x :: xs, vs, s, s', r, S0, p, e => by
    cases p with
    | cons p1 p2 =>
      rename_i v vs
      rcases bnd_some e with ⟨z, e1, rfl⟩ | ⟨w, s1, e1, e2⟩
      · obtain ⟨_, _, q, _⟩ := look_ok S0 p1 e1
        cases q
      · obtain ⟨rfl, w', q, r1⟩ := look_ok S0 p1 e1
        cases q
        rcases bnd_some e2 with ⟨z, e3, rfl⟩ | ⟨ws, s2, e3, e4⟩
        · obtain ⟨_, _, q, _⟩ := lookAll_ok S0 p2 e3
          cases q
        · obtain ⟨rfl, ws', q, r2⟩ := lookAll_ok S0 p2 e3
          cases q
          cases e4
          exact ⟨rfl, _, rfl, .cons r1 r2⟩
theorem arg2 {α : Type} {ta : TA} {ms : Mo (List RV)} (ha : RefA K mg ea Wx ta ms) (S0 : Sim K mg ea io Fr s σ H) {f : List RV → Mo α} {r : Except Ex α} (e : bnd ms f s = some (r, s'))
    (hex : ∀ x, r = .error x → ∀ cls d H' io', PostX K mg ea io Fr s σ H s' σ io' H' x cls d → Wx cls d σ H')
    {R : List V → Hp → Prop} (hR : ∀ xs vs s1 H1 io1, f xs s1 = some (r, s') → PostS K mg ea io Fr s σ H s1 σ io1 H1 → Paired (RvR K mg io1 (Ms io1 Fr s1 σ) σ H1) xs vs → R vs H1) : ta σ H R := by
  rcases bnd_some e with ⟨x, e1, rfl⟩ | ⟨b, s1, e1, e2⟩
  · exact ha σ H io Fr s S0 _ _ e1 _ (fun _ q => by cases q) fun x' q cls d H' io' px => by
      cases q
      exact hex _ rfl cls d H' io' px
  · refine ha σ H io Fr s S0 _ _ e1 _ (fun x' q vs H1 io1 px R1 => ?_) (fun _ q => by cases q)
    cases q
    exact hR _ vs s1 H1 io1 e2 px R1
theorem one2 {α : Type} {ta : TE} {m : Mo RV} (ha : RefE K mg ea Wx ta m) (S0 : Sim K mg ea io Fr s σ H) {f : RV → Mo α} {r : Except Ex α} (e : bnd m f s = some (r, s'))
    (hex : ∀ x, r = .error x → ∀ cls d H' io', PostX K mg ea io Fr s σ H s' σ io' H' x cls d → Wx cls d σ H')
    {R : V → Hp → Prop} (hR : ∀ x v s1 H1 io1, f x s1 = some (r, s') → PostE K mg ea io Fr s σ H s1 io1 H1 x v → R v H1) : ta σ H R := by
  rcases bnd_some e with ⟨x, e1, rfl⟩ | ⟨b, s1, e1, e2⟩
  · exact ha σ H io Fr s S0 _ _ e1 _ (fun _ q => by cases q) fun x' q cls d H' io' px => by
      cases q
      exact hex _ rfl cls d H' io' px
  · refine ha σ H io Fr s S0 _ _ e1 _ (fun x' q v H1 io1 px => ?_) (fun _ q => by cases q)
    cases q
    exact hR _ v s1 H1 io1 e2 px
theorem Stp.lessM {M M' M2 : Addr → Prop} (x : Stp io M Fr H io' M' H') (h : ∀ b, M2 b → M' b) : Stp io M Fr H io' M2 H' := x.less h
def mDisp (k : List W → RV) (ms : Mo (List RV)) : Mo RV := bnd ms fun xs => bnd (freezeAll xs) fun ws => if ws.length ≤ sz then ret (k ws) else stk
def mTup : Mo (List RV) → Mo RV := mDisp fun ws => .val (.tup ws)
def mLst : Mo (List RV) → Mo RV := mDisp fun ws => .own (.lst ws)
theorem ref_tup {ta : TA} {ms : Mo (List RV)} (ha : RefA K mg ea Wx ta ms) : RefE K mg ea Wx (tTup ta) (mTup ms) := by
  intro σ H io Fr s S0 r0 s' e Q hok hex
  refine arg2 ha S0 e hex fun xs vs s1 H1 io1 e2 px R1 => ?_
  rcases bnd_some e2 with ⟨x, e3, rfl⟩ | ⟨ws, s2, e3, e4⟩
  · obtain ⟨_, _, _, _, q, _⟩ := freezeAll_ok px.1 R1 e3
    cases q
  · obtain ⟨g, m, S2, ws', q, r2⟩ := freezeAll_ok px.1 R1 e3
    cases q
    split at e4
    · rename_i hz
      cases e4
      have := OQ.post (z := .newt ws) S2 (px.2.lessM m) fun v H3 io3 q => hok _ rfl v H3 io3 q
      exact ⟨by rw [sz_eq, ← r2.1]; exact hz, fun p hp => this p vs hp r2⟩
    · cases e4
theorem ref_lst {ta : TA} {ms : Mo (List RV)} (ha : RefA K mg ea Wx ta ms) : RefE K mg ea Wx (tLst ta) (mLst ms) := by
  intro σ H io Fr s S0 r0 s' e Q hok hex
  refine arg2 ha S0 e hex fun xs vs s1 H1 io1 e2 px R1 => ?_
  rcases bnd_some e2 with ⟨x, e3, rfl⟩ | ⟨ws, s2, e3, e4⟩
  · obtain ⟨_, _, _, _, q, _⟩ := freezeAll_ok px.1 R1 e3
    cases q
  · obtain ⟨g, m, S2, ws', q, r2⟩ := freezeAll_ok px.1 R1 e3
    cases q
    split at e4
    · rename_i hz
      cases e4
      have := OQ.post (z := .newl ws) S2 (px.2.lessM m) fun v H3 io3 q => hok _ rfl v H3 io3 q
      exact ⟨by rw [sz_eq, ← r2.1]; exact hz, fun p hp => this p vs hp r2⟩
    · cases e4
def CallM (X : Cx) (g : Value) (f : List W → Option OR) : Prop :=
  ∃ r : List V → Hp → VK → Prop, CallR X g r ∧ ∀ io M H ws vs z Q, Paired (Rn X.K X.mg io M H) ws vs → f ws = some z → OQ X.K X.mg io M H z Q → r vs H Q
def mCB (f : List W → Option OR) (ms : Mo (List RV)) : Mo RV := bnd ms fun xs => bnd (lookAll xs) fun ws => liftO (f ws)
theorem ref_cb {ta : TA} {ms : Mo (List RV)} {f : List W → Option OR} {r : List V → Hp → VK → Prop} (hr : ∀ io M H ws vs z Q, Paired (Rn K mg io M H) ws vs → f ws = some z → OQ K mg io M H z Q → r vs H Q)
    (ha : RefA K mg ea Wx ta ms) : RefE K mg ea Wx (tCB r ta) (mCB f ms) := by
  intro σ H io Fr s S0 r0 s' e Q hok hex
  refine arg2 ha S0 e hex fun xs vs s1 H1 io1 e2 px R1 => ?_
  rcases bnd_some e2 with ⟨x, e3, rfl⟩ | ⟨ws, s2, e3, e4⟩
  · obtain ⟨_, _, q, _⟩ := lookAll_ok px.1 R1 e3
    cases q
  · obtain ⟨rfl, ws', q, r2⟩ := lookAll_ok px.1 R1 e3
    cases q
    obtain ⟨rfl, u, hu, rfl⟩ := liftO_some e4
    exact hr _ _ _ _ _ _ _ r2 hu (OQ.post px.1 px.2 fun v H3 io3 q => hok _ rfl v H3 io3 q)
def or1 {α γ : Type} (f g : α → Option γ) : α → Option γ := fun x => match f x with
  | some z => some z
  | none => g x
theorem CallR.or {X : Cx} {f : Value} {r r' : List V → Hp → VK → Prop} (h : CallR X f r) (h' : CallR X f r') : CallR X f (fun xs H Q => r xs H Q ∨ r' xs H Q) := by
  intro pins s σ H xs us Q I rr q
  rcases q with q | q
  · exact h pins s σ H xs us Q I rr q
  · exact h' pins s σ H xs us Q I rr q
theorem CallM.or {X : Cx} {g : Value} {f f' : List W → Option OR} (h : CallM X g f) (h' : CallM X g f') : CallM X g (or1 f f') := by
  obtain ⟨r, a, b⟩ := h
  obtain ⟨r', a', b'⟩ := h'
  refine ⟨_, CallR.or a a', fun io M H ws vs z Q rx e q => ?_⟩
  unfold or1 at e
  cases k : f ws with
  | some z' =>
    rw [k] at e
    cases e
    exact .inl (b io M H ws vs z Q rx k q)
  | none =>
    rw [k] at e
    exact .inr (b' io M H ws vs z Q rx e q)
theorem p1 {α β : Type} {F : α → β → Prop} {x : α} {ys : List β} (h : Paired F [x] ys) : ∃ y, ys = [y] ∧ F x y := by
  cases h with
  | cons h t => cases t; exact ⟨_, rfl, h⟩
theorem p2 {α β : Type} {F : α → β → Prop} {x x' : α} {ys : List β} (h : Paired F [x, x'] ys) : ∃ y y', ys = [y, y'] ∧ F x y ∧ F x' y' := by
  cases h with
  | cons h t =>
    cases t with
    | cons h' t => cases t; exact ⟨_, _, rfl, h, h'⟩
end
section
variable {X : Cx}
def fLen : List W → Option OR
  | [w] => match seqOf w with
    | some ws => some (.imm (.int (ws.length : Nat)))
    | none => match w with
      | .str x => if x.length ≤ sz then some (.imm (.int (x.length : Nat))) else none
      | .byt x => if x.size ≤ sz then some (.imm (.int (x.size : Nat))) else none
      | _ => none
  | _ => none
theorem cm_len : CallM X (.builtin "len") fLen := by
  refine ⟨_, call_len, fun io M H ws vs z Q rx e q => ?_⟩
  unfold fLen at e
  split at e
  · rename_i w
    obtain ⟨v, rfl, r⟩ := p1 rx
    split at e
    · rename_i ws hs
      cases e
      obtain ⟨a, us, rfl, h, r2⟩ := r.seq (seqOf_some hs)
      refine ⟨_, us.length, rfl, h.imp (fun h => ⟨us, h, rfl⟩) (fun h => ⟨us, h, rfl⟩), ?_⟩
      rw [← r2.1]
      exact q _ (.int _)
    · split at e
      · split at e
        · rename_i hz
          cases e
          have := r.str
          subst this
          exact ⟨_, _, rfl, ⟨by rw [sz_eq]; exact hz, rfl⟩, q _ (.int _)⟩
        · cases e
      · split at e
        · rename_i hz
          cases e
          have := r.byt
          subst this
          exact ⟨_, _, rfl, ⟨by rw [sz_eq]; exact hz, rfl⟩, q _ (.int _)⟩
        · cases e
      · cases e
  · cases e
def fList : List W → Option OR
  | [w] => (seqOf w).map .newl
  | _ => none
theorem cm_list : CallM X (.type "list") fList := by
  refine ⟨_, call_list_of, fun io M H ws vs z Q rx e q => ?_⟩
  unfold fList at e
  split at e
  · obtain ⟨v, rfl, r⟩ := p1 rx
    obtain ⟨ws, hs, rfl⟩ := Option.map_eq_some_iff.mp e
    obtain ⟨a, us, rfl, h, r2⟩ := r.seq (seqOf_some hs)
    exact ⟨a, us, rfl, h, fun l hl => q l us hl r2⟩
  · cases e
def fTuple : List W → Option OR
  | [.lst ws] => some (.newt ws)
  | [.frl ws] => some (.newt ws)
  | [.tup ws] => some (.imm (.tup ws))
  | _ => none
theorem cm_tuple : CallM X (.type "tuple") fTuple := by
  refine ⟨_, call_tuple_of, fun io M H ws vs z Q rx e q => ?_⟩
  unfold fTuple at e
  split at e
  · obtain ⟨v, rfl, r⟩ := p1 rx
    cases e
    obtain ⟨a, us, rfl, h, r2⟩ := r.lst
    exact ⟨a, us, rfl, .inl ⟨SqL.of h, fun l hl => q l us hl r2⟩⟩
  · obtain ⟨v, rfl, r⟩ := p1 rx
    cases e
    obtain ⟨a, us, rfl, h, r2⟩ := r.frl
    exact ⟨a, us, rfl, .inl ⟨h, fun l hl => q l us hl r2⟩⟩
  · obtain ⟨v, rfl, r⟩ := p1 rx
    cases e
    have rw := r.tupRw
    obtain ⟨a, us, rfl, h, r2⟩ := r.tup
    exact ⟨a, us, rfl, .inr ⟨h, q _ rw⟩⟩
  · cases e
def fInt1 : List W → Option OR
  | [.int i] => some (.imm (.int i))
  | [.bl b] => some (.imm (.int (if b then 1 else 0)))
  | _ => none
theorem cm_int : CallM X (.type "int") fInt1 := by
  refine ⟨_, call_int1, fun io M H ws vs z Q rx e q => ?_⟩
  unfold fInt1 at e
  split at e
  · obtain ⟨v, rfl, r⟩ := p1 rx
    cases e
    have := r.int
    subst this
    exact .inl ⟨_, rfl, q _ (.int _)⟩
  · obtain ⟨v, rfl, r⟩ := p1 rx
    cases e
    have := r.bl
    subst this
    exact .inr ⟨_, rfl, q _ (.int _)⟩
  · cases e
def blsOf : List W → Option (List Bool)
  | [] => some []
  | .bl b :: ws => (blsOf ws).map (b :: ·)
  | _ => none
theorem blsOf_ok {K : PySem.W.Frag} {mg : Str → Option Value} {io : List Addr} {M : Addr → Prop} {H : Hp} : ∀ {ws : List W} {vs : List V} {bs : List Bool}, Rws K mg io M H ws vs → blsOf ws = some bs → vs = bs.map V.bl
  | [], vs, bs, h, e => by
    rw [h.nil_inv]
    simp only [blsOf, Option.some.injEq] at e
    subst e
    rfl
  | w :: ws, vs, bs, h, e => by
    obtain ⟨v, r, rfl, h1, h2⟩ := h.cons_inv
    cases w <;> simp only [blsOf, Option.map_eq_some_iff, reduceCtorEq] at e
    obtain ⟨bs', e1, rfl⟩ := e
    cases h1
    rw [blsOf_ok h2 e1]
    rfl
def fAll : List W → Option OR
  | [.lst ws] => (blsOf ws).map fun bs => .imm (.bl (bs.all id))
  | _ => none
theorem cm_all (hc : X.calm = true := by rfl) : CallM X (.builtin "all") fAll := by
  refine ⟨_, cr_all hc, fun io M H ws vs z Q rx e q => ?_⟩
  unfold fAll at e
  split at e
  · obtain ⟨v, rfl, r⟩ := p1 rx
    obtain ⟨bs, e1, rfl⟩ := Option.map_eq_some_iff.mp e
    obtain ⟨a, us, rfl, h, r2⟩ := r.lst
    have := blsOf_ok r2 e1
    subst this
    exact ⟨a, bs, rfl, SqL.of h, q _ (.bl _)⟩
  · cases e
end
section
variable {X : Cx} {ea : EA} {Wx : WX} {e : Expr} {es : List Expr} {m : Mo RV} {ms : Mo (List RV)} {pos p : Pos}
theorem pea_nil : Pea X ea Wx [] mNil := ⟨_, pa_nil, ref_nil⟩
theorem pea_cons (ha : Pee X ea Wx e m) (hr : Pea X ea Wx es ms) (hs : starEach (e :: es) X.env = (false, eval e X.env) :: starEach es X.env := by rfl) : Pea X ea Wx (e :: es) (mCons m ms) :=
  let ⟨_, p, r⟩ := ha.ex; let ⟨_, p', r'⟩ := hr.ex; ⟨_, pa_cons p p' hs, ref_cons r r'⟩
theorem pee_tup {x1} (h : Pea X ea Wx es ms) : Pee X ea Wx (.Tuple es x1 pos) (mTup ms) := let ⟨_, p, r⟩ := h.ex; ⟨_, pe_tup p, ref_tup r⟩
theorem pee_lst (h : Pea X ea Wx es ms) : Pee X ea Wx (.List es pos) (mLst ms) := let ⟨_, p, r⟩ := h.ex; ⟨_, pe_lst p, ref_lst r⟩
theorem pee_cb {f : List W → Option OR} {id : String} {x : Str} (hc : CallM X (.builtin id) f) (hm : X.mg x = none) (ha : Pea X ea Wx (e :: es) ms) (hg : Gl X x := by rfl) (hv : bootBuiltins x = some (.builtin id) := by decide +kernel) (hn : x ≠ "__name__" := by decide) (hdb : (x == ("__debug__" : Str)) = false := by decide)
    (he : starEach (e :: es) X.env = (false, eval e X.env) :: starEach es X.env := by rfl) (hpl : (backTo pos (starEach es X.env)).any (·.1) = false := by rfl) : Pee X ea Wx (.Call (.Name x p) (e :: es) [] pos) (mCB f ms) :=
  let ⟨_, p, r⟩ := ha.ex; let ⟨_, h1, h2⟩ := hc; ⟨_, pe_callB h1 hg hm hv p hn hdb he hpl, ref_cb h2 r⟩
theorem pee_ct {f : List W → Option OR} {T : String} {x : Str} (hc : CallM X (.type T) f) (hm : X.mg x = none) (ha : Pea X ea Wx (e :: es) ms) (hg : Gl X x := by rfl) (hv : bootBuiltins x = some (.type T) := by decide +kernel) (hn : x ≠ "__name__" := by decide) (hdb : (x == ("__debug__" : Str)) = false := by decide)
    (he : starEach (e :: es) X.env = (false, eval e X.env) :: starEach es X.env := by rfl) (hpl : (backTo pos (starEach es X.env)).any (·.1) = false := by rfl) : Pee X ea Wx (.Call (.Name x p) (e :: es) [] pos) (mCB f ms) :=
  let ⟨_, p, r⟩ := ha.ex; let ⟨_, h1, h2⟩ := hc; ⟨_, pe_callTy h1 hg hm hv p hn hdb he hpl, ref_cb h2 r⟩
end
end Z
set_option Elab.async false
set_option linter.all false
set_option maxRecDepth 100000
namespace Z
open PySem PySem.Spec PyProof.Rows
open L2 hiding XE Takes CX takes_of passes_call passAt MkP PMk ps_raise mk_of ps_try_as ps_try_many pmk_own Takes.imp
open L2N
section
variable {K : PySem.W.Frag} {mg : Str → Option Value} {ea : EA} {io io' : List Addr} {Fr Fr' : Addr → Prop} {s s' s2 : S} {σ σ' : L2.St} {H H' : Hp} {w : W} {v : V} {c : Cell} {o : HO} {a p : Addr}
theorem Sim.sub {r' : List SV} (x : Sim K mg ea io Fr s σ H) (hl : r'.length = σ'.length) (h : ∀ i : Nat, (r'[i]? = s.r[i]? ∧ σ'[i]? = σ[i]?) ∨ r'[i]? = some .non ∨ r'[i]? = none) : Sim K mg ea io Fr { s with r := r' } σ' H ∧ (∀ b, Ms io Fr { s with r := r' } σ' b → Ms io Fr s σ b) := by
  have fo : ∀ b, FrO Fr r' σ' b → FrO Fr s.r σ b := fun b z => z.imp id fun ⟨i, c, h1, h2⟩ => by
    rcases h i with ⟨q1, q2⟩ | q | q
    · exact ⟨i, c, by rw [← q1]; exact h1, by rw [← q2]; exact h2⟩
    · rw [h1] at q; cases q
    · rw [h1] at q; cases q
  have le : ∀ b, Ms io Fr { s with r := r' } σ' b → Ms io Fr s σ b := fun b z => z.imp id (fo b)
  refine ⟨⟨hl, x.g.less fo, fun i w e => ?_, fun i c e => ?_, fun i j c d b e1 e2 e3 e4 => ?_, fun i y e => ?_⟩, le⟩
  · rcases h i with ⟨q1, q2⟩ | q | q
    · obtain ⟨v, h1, h2⟩ := x.val i w (by rw [← q1]; exact e)
      exact ⟨v, by rw [q2]; exact h1, h2.pers (.less le)⟩
    · rw [show r'[i]? = some (.val w) from e] at q; cases q
    · rw [show r'[i]? = some (.val w) from e] at q; cases q
  · rcases h i with ⟨q1, q2⟩ | q | q
    · obtain ⟨b, o, h1, h2, h3, h4⟩ := x.own i c (by rw [← q1]; exact e)
      exact ⟨b, o, by rw [q2]; exact h1, h2, h3.pers (.less le), h4⟩
    · rw [show r'[i]? = some (.own c) from e] at q; cases q
    · rw [show r'[i]? = some (.own c) from e] at q; cases q
  · rcases h i with ⟨q1, q2⟩ | q | q
    · rcases h j with ⟨q3, q4⟩ | q | q
      · exact x.dist i j c d b (by rw [← q1]; exact e1) (by rw [← q3]; exact e2) (by rw [← q2]; exact e3) (by rw [← q4]; exact e4)
      · rw [show r'[j]? = some (.own d) from e2] at q; cases q
      · rw [show r'[j]? = some (.own d) from e2] at q; cases q
    · rw [show r'[i]? = some (.own c) from e1] at q; cases q
    · rw [show r'[i]? = some (.own c) from e1] at q; cases q
  · rcases h i with ⟨q1, q2⟩ | q | q
    · obtain ⟨h1, h2⟩ := x.exc i y (by rw [← q1]; exact e)
      exact ⟨by rw [q2]; exact h1, h2.pers (.less le)⟩
    · rw [show r'[i]? = some (.exc y) from e] at q; cases q
    · rw [show r'[i]? = some (.exc y) from e] at q; cases q
theorem Sim.drop1 {i : Nat} {u : Option V} (x : Sim K mg ea io Fr s σ H) : Sim K mg ea io Fr { s with r := s.r.set i .non } (σ.set i u) H ∧ (∀ b, Ms io Fr { s with r := s.r.set i .non } (σ.set i u) b → Ms io Fr s σ b) := by
  refine x.sub (by simp [x.len]) fun j => ?_
  by_cases e : i = j
  · subst e
    rcases Nat.lt_or_ge i s.r.length with q | q
    · exact .inr (.inl (List.getElem?_set_self q))
    · exact .inr (.inr (List.getElem?_eq_none (by simpa using q)))
  · exact .inl ⟨List.getElem?_set_ne e, List.getElem?_set_ne e⟩
theorem Sim.setVal {i : Nat} (x : Sim K mg ea io Fr s σ H) (h : Rw K mg io (Ms io Fr s σ) H w v) : Sim K mg ea io Fr { s with r := s.r.set i (.val w) } (σ.set i (some v)) H ∧ (∀ b, Ms io Fr { s with r := s.r.set i (.val w) } (σ.set i (some v)) b → Ms io Fr s σ b) := by
  have fo : ∀ b, FrO Fr (s.r.set i (.val w)) (σ.set i (some v)) b → FrO Fr s.r σ b := fun b z => z.imp id fun ⟨j, c, h1, h2⟩ => by
    by_cases e : i = j
    · subst e
      have := get_lt h1
      rw [List.getElem?_set_self (by simpa using this)] at h1
      cases h1
    · rw [List.getElem?_set_ne e] at h1 h2
      exact ⟨j, c, h1, h2⟩
  have le : ∀ b, Ms io Fr { s with r := s.r.set i (.val w) } (σ.set i (some v)) b → Ms io Fr s σ b := fun b z => z.imp id (fo b)
  refine ⟨⟨by simp [x.len], x.g.less fo, fun j u e => ?_, fun j c e => ?_, fun j k c d b e1 e2 e3 e4 => ?_, fun j y e => ?_⟩, le⟩
  · by_cases ij : i = j
    · subst ij
      have hi := get_lt e
      simp only [List.length_set] at hi
      rw [List.getElem?_set_self hi] at e
      cases e
      exact ⟨v, List.getElem?_set_self (by rw [← x.len]; exact hi), h.pers (.less le)⟩
    · rw [List.getElem?_set_ne ij] at e
      obtain ⟨y, h1, h2⟩ := x.val j u e
      exact ⟨y, by rw [List.getElem?_set_ne ij]; exact h1, h2.pers (.less le)⟩
  · by_cases ij : i = j
    · subst ij
      have hi := get_lt e
      simp only [List.length_set] at hi
      rw [List.getElem?_set_self hi] at e
      cases e
    · rw [List.getElem?_set_ne ij] at e
      obtain ⟨b, o, h1, h2, h3, h4⟩ := x.own j c e
      exact ⟨b, o, by rw [List.getElem?_set_ne ij]; exact h1, h2, h3.pers (.less le), h4⟩
  · by_cases ij : i = j
    · subst ij
      have hi := get_lt e1
      simp only [List.length_set] at hi
      rw [List.getElem?_set_self hi] at e1
      cases e1
    · by_cases ik : i = k
      · subst ik
        have hi := get_lt e2
        simp only [List.length_set] at hi
        rw [List.getElem?_set_self hi] at e2
        cases e2
      · rw [List.getElem?_set_ne ij] at e1 e3
        rw [List.getElem?_set_ne ik] at e2 e4
        exact x.dist j k c d b e1 e2 e3 e4
  · by_cases ij : i = j
    · subst ij
      have hi := get_lt e
      simp only [List.length_set] at hi
      rw [List.getElem?_set_self hi] at e
      cases e
    · rw [List.getElem?_set_ne ij] at e ⊢
      obtain ⟨h1, h2⟩ := x.exc j y e
      exact ⟨h1, h2.pers (.less le)⟩
theorem Sim.setOwn {i : Nat} (x : Sim K mg ea io (pls Fr a) s σ H) (ha : H a = some o) (nf : ¬ FrO Fr s.r σ a) (h : Rc K mg io (Ms io (pls Fr a) s σ) H c o) :
    Sim K mg ea io Fr { s with r := s.r.set i (.own c) } (σ.set i (some (V.ref a))) H ∧ (∀ b, Ms io Fr { s with r := s.r.set i (.own c) } (σ.set i (some (V.ref a))) b → Ms io (pls Fr a) s σ b) := by
  have fo : ∀ b, FrO Fr (s.r.set i (.own c)) (σ.set i (some (V.ref a))) b → FrO (pls Fr a) s.r σ b := fun b z => by
    rcases z with z | ⟨j, d, h1, h2⟩
    · exact .inl (.inl z)
    · by_cases e : i = j
      · subst e
        have hi := get_lt h2
        simp only [List.length_set] at hi
        rw [List.getElem?_set_self hi] at h2
        cases h2
        exact .inl (.inr rfl)
      · rw [List.getElem?_set_ne e] at h1 h2
        exact .inr ⟨j, d, h1, h2⟩
  have le : ∀ b, Ms io Fr { s with r := s.r.set i (.own c) } (σ.set i (some (V.ref a))) b → Ms io (pls Fr a) s σ b := fun b z => z.imp id (fo b)
  have nF : ¬ Fr a := fun z => nf (.inl z)
  have nO : ∀ (j : Nat) d, s.r[j]? = some (.own d) → σ[j]? = some (some (V.ref a)) → False := fun j d h1 h2 => nf (.inr ⟨j, d, h1, h2⟩)
  refine ⟨⟨by simp [x.len], x.g.less fo, fun j u e => ?_, fun j d e => ?_, fun j k d d' b e1 e2 e3 e4 => ?_, fun j y e => ?_⟩, le⟩
  · by_cases ij : i = j
    · subst ij
      have hi := get_lt e
      simp only [List.length_set] at hi
      rw [List.getElem?_set_self hi] at e
      cases e
    · rw [List.getElem?_set_ne ij] at e
      obtain ⟨y, h1, h2⟩ := x.val j u e
      exact ⟨y, by rw [List.getElem?_set_ne ij]; exact h1, h2.pers (.less le)⟩
  · by_cases ij : i = j
    · subst ij
      have hi := get_lt e
      simp only [List.length_set] at hi
      rw [List.getElem?_set_self hi] at e
      cases e
      exact ⟨a, o, List.getElem?_set_self (by rw [← x.len]; exact hi), ha, h.pers (.less le), nF⟩
    · rw [List.getElem?_set_ne ij] at e
      obtain ⟨b, o, h1, h2, h3, h4⟩ := x.own j d e
      exact ⟨b, o, by rw [List.getElem?_set_ne ij]; exact h1, h2, h3.pers (.less le), fun z => h4 (.inl z)⟩
  · by_cases ij : i = j
    · subst ij
      by_cases ik : i = k
      · exact ik
      · have hi := get_lt e3
        simp only [List.length_set] at hi
        rw [List.getElem?_set_self hi] at e3
        cases e3
        rw [List.getElem?_set_ne ik] at e2 e4
        exact (nO k d' e2 e4).elim
    · by_cases ik : i = k
      · subst ik
        have hi := get_lt e4
        simp only [List.length_set] at hi
        rw [List.getElem?_set_self hi] at e4
        cases e4
        rw [List.getElem?_set_ne ij] at e1 e3
        exact (nO j d e1 e3).elim
      · rw [List.getElem?_set_ne ij] at e1 e3
        rw [List.getElem?_set_ne ik] at e2 e4
        exact x.dist j k d d' b e1 e2 e3 e4
  · by_cases ij : i = j
    · subst ij
      have hi := get_lt e
      simp only [List.length_set] at hi
      rw [List.getElem?_set_self hi] at e
      cases e
    · rw [List.getElem?_set_ne ij] at e ⊢
      obtain ⟨h1, h2⟩ := x.exc j y e
      exact ⟨h1, h2.pers (.less le)⟩
def setM (i : Nat) (x : SV) : Mo Fl := fun s => some (.ok .nx, { s with r := s.r.set i x })
def land : RV → Mo SV
  | .val w => ret (.val w)
  | .own c => ret (.own c)
  | .hnd j => bnd (freeze (.hnd j)) fun w => ret (.val w)
def mAsg (i : Nat) (m : Mo RV) : Mo Fl := bnd m fun x => bnd (land x) fun y => setM i y
variable {Wx : WX}
theorem PostF.trans {M M1 : Addr → Prop} {G' : List Cell} {io1 : List Addr} {H1 : Hp} {f : FV} (T : Stp io M Fr H io1 M1 H1) (p : PostF K mg io1 M1 Fr H1 G' io' H' f v) : PostF K mg io M Fr H G' io' H' f v := by
  cases f with
  | val w => exact ⟨p.1, T.trans p.2.1, p.2.2⟩
  | own c =>
    obtain ⟨a, o, h1, h2, h3, h4, h5, h6⟩ := p
    exact ⟨a, o, h1, h2, h3, h4, T.trans h5, h6⟩
theorem ref_asg {te : TE} {m : Mo RV} (i : Nat) (h : RefE K mg ea Wx te m) : RefS K mg ea Wx (tAsg te (gName i)) (mAsg i m) := by
  intro σ H io Fr s S0 r0 s' e D hnx hbk hct hrt hex
  refine one2 h S0 e (fun x q cls d H' io' px => hex x q cls d σ H' io' px) fun x v s1 H1 io1 e2 px => ?_
  cases x with
  | val w =>
    obtain ⟨S1, T1, R1⟩ := px
    obtain ⟨S2, l2⟩ := S1.setVal (i := i) R1
    cases e2
    exact hnx rfl _ _ _ ⟨S2, T1.less l2⟩
  | own c =>
    obtain ⟨a, o, rfl, ha, nf, S1, T1, R1⟩ := px
    obtain ⟨S2, l2⟩ := S1.setOwn (i := i) ha nf R1
    cases e2
    exact hnx rfl _ _ _ ⟨S2, T1.less l2⟩
  | hnd j =>
    obtain ⟨S1, T1, R1⟩ := px
    rcases bnd_some e2 with ⟨z, e3, rfl⟩ | ⟨y, s3, e3, e4⟩
    · rcases bnd_some e3 with ⟨z', e5, _⟩ | ⟨w', s5, e5, e6⟩
      · obtain ⟨_, _, _, _, q, _⟩ := freeze_ok S1 (x := .hnd j) (v := v) R1 e5
        cases q
      · cases e6
    · rcases bnd_some e3 with ⟨z', e5, q⟩ | ⟨w', s5, e5, e6⟩
      · cases q
      · obtain ⟨g, l, S5, w2, q, R5⟩ := freeze_ok S1 (x := .hnd j) (v := v) R1 e5
        cases q
        cases e6
        obtain ⟨S2, l2⟩ := S5.setVal (i := i) R5
        cases e4
        exact hnx rfl _ _ _ ⟨S2, T1.less fun b z => l b (l2 b z)⟩
def mSeq (a b : Mo Fl) : Mo Fl := bnd a fun f => match f with
  | .nx => b
  | f => ret f
def mNext : Mo Fl := ret .nx
theorem ref_next : RefS K mg ea Wx tNext mNext := by
  intro σ H io Fr s S0 r0 s' e D hnx hbk hct hrt hex
  cases e
  exact hnx rfl _ _ _ ⟨S0, .refl⟩
theorem ref_seq {t u : TS} {a b : Mo Fl} (h : RefS K mg ea Wx t a) (h' : RefS K mg ea Wx u b) : RefS K mg ea Wx (tSeq t u) (mSeq a b) := by
  intro σ H io Fr s S0 r0 s' e D hnx hbk hct hrt hex
  rcases bnd_some e with ⟨x, e1, rfl⟩ | ⟨f, s1, e1, e2⟩
  · exact h σ H io Fr s S0 _ _ e1 _ (fun q => by cases q) (fun q => by cases q) (fun q => by cases q) (fun _ q => by cases q) fun x' q cls d σ' H' io' px => by
      cases q
      exact hex _ rfl cls d σ' H' io' px
  · cases f with
    | nx =>
      refine h σ H io Fr s S0 _ _ e1 _ (fun q σ1 H1 io1 px => ?_) (fun q => by cases q) (fun q => by cases q) (fun _ q => by cases q) (fun _ q => by cases q)
      exact h' σ1 H1 io1 Fr s1 px.1 _ _ e2 D (fun q σ2 H2 io2 py => hnx q σ2 H2 io2 ⟨py.1, px.2.trans py.2⟩) (fun q σ2 H2 io2 py => hbk q σ2 H2 io2 ⟨py.1, px.2.trans py.2⟩) (fun q σ2 H2 io2 py => hct q σ2 H2 io2 ⟨py.1, px.2.trans py.2⟩)
        (fun f q v H2 io2 py => hrt f q v H2 io2 (py.trans px.2)) fun x q cls d σ2 H2 io2 py => hex x q cls d σ2 H2 io2 ⟨py.1, px.2.trans py.2.1, py.2.2⟩
    | bk =>
      cases e2
      exact h σ H io Fr s S0 _ _ e1 _ (fun q => by cases q) hbk (fun q => by cases q) (fun _ q => by cases q) (fun _ q => by cases q)
    | ct =>
      cases e2
      exact h σ H io Fr s S0 _ _ e1 _ (fun q => by cases q) (fun q => by cases q) hct (fun _ q => by cases q) (fun _ q => by cases q)
    | rt f =>
      cases e2
      exact h σ H io Fr s S0 _ _ e1 _ (fun q => by cases q) (fun q => by cases q) (fun q => by cases q) hrt (fun _ q => by cases q)
def mDrop (m : Mo RV) : Mo Fl := bnd m fun _ => ret .nx
theorem ref_drop {te : TE} {m : Mo RV} (h : RefE K mg ea Wx te m) : RefS K mg ea Wx (tDrop te) (mDrop m) := by
  intro σ H io Fr s S0 r0 s' e D hnx hbk hct hrt hex
  refine one2 h S0 e (fun x q cls d H' io' px => hex x q cls d σ H' io' px) fun x v s1 H1 io1 e2 px => ?_
  cases e2
  obtain ⟨S1, T1, _⟩ := px.settled
  exact hnx rfl _ _ _ ⟨S1, T1⟩
def retM : RV → Mo Fl
  | .val w => ret (.rt (.val w))
  | .own c => ret (.rt (.own c))
  | .hnd i => fun s => match s.r[i]? with
    | some (.own c) => some (.ok (.rt (.own c)), s)
    | some (.val w) => some (.ok (.rt (.val w)), s)
    | _ => none
def mRet (m : Mo RV) : Mo Fl := bnd m retM
theorem PostF.ofVal (S1 : Sim K mg ea io' Fr s2 σ H') {M : Addr → Prop} (T : Stp io M Fr H io' (Ms io' Fr s2 σ) H') (R : Rw K mg io' (Ms io' Fr s2 σ) H' w v) : PostF K mg io M Fr H s2.G io' H' (.val w) v := by
  have le : ∀ b, Mu io' Fr b → Ms io' Fr s2 σ b := fun b z => z.imp id .inl
  exact ⟨S1.g.less (s := s2) fun b z => .inl z, T.less le, R.pers (.less le)⟩
theorem ref_ret {te : TE} {m : Mo RV} (h : RefE K mg ea Wx te m) : RefS K mg ea Wx (tRet te) (mRet m) := by
  intro σ H io Fr s S0 r0 s' e D hnx hbk hct hrt hex
  refine one2 h S0 e (fun x q cls d H' io' px => hex x q cls d σ H' io' px) fun x v s1 H1 io1 e2 px => ?_
  cases x with
  | val w =>
    obtain ⟨S1, T1, R1⟩ := px
    cases e2
    exact hrt _ rfl _ _ _ (.ofVal S1 T1 R1)
  | own c =>
    obtain ⟨a, o, rfl, ha, nf, S1, T1, R1⟩ := px
    have le : ∀ b, Mu io1 (pls Fr a) b → Ms io1 (pls Fr a) s1 σ b := fun b z => z.imp id .inl
    have g1 := S1.g.less (s := s1) (Fr' := pls Fr a) fun b z => .inl z
    have T2 := T1.less le
    have R2 := R1.pers (.less le)
    cases e2
    exact hrt _ rfl _ _ _ ⟨a, o, rfl, ha, fun z => nf (.inl z), g1, T2, R2⟩
  | hnd i =>
    obtain ⟨S1, T1, R1⟩ := px
    simp only [retM] at e2
    split at e2
    · rename_i c q
      obtain ⟨a, o, q1, q2, q3, q4⟩ := S1.own i c q
      rw [R1] at q1
      cases q1
      have fo : ∀ b, pls Fr a b → FrO Fr s1.r σ b := fun b z => by
        rcases z with z | z
        · exact .inl z
        · exact .inr ⟨i, c, q, by rw [z]; exact R1⟩
      have le : ∀ b, Mu io1 (pls Fr a) b → Ms io1 Fr s1 σ b := fun b z => z.imp id (fo b)
      have g1 := S1.g.less (s := s1) fo
      have T2 := T1.less le
      have R2 := q3.pers (.less le)
      cases e2
      exact hrt _ rfl _ _ _ ⟨a, o, rfl, q2, q4, g1, T2, R2⟩
    · rename_i w q
      obtain ⟨u, q1, q2⟩ := S1.val i w q
      rw [R1] at q1
      cases q1
      cases e2
      exact hrt _ rfl _ _ _ (.ofVal S1 T1 q2)
    · cases e2
def mIf (c : Mo Bool) (a b : Mo Fl) : Mo Fl := bnd c fun x => if x = true then a else b
theorem ref_if {c : TT} {mc : Mo Bool} {t u : TS} {a b : Mo Fl} (hc : RefT K mg ea Wx c mc) (h : RefS K mg ea Wx t a) (h' : RefS K mg ea Wx u b) : RefS K mg ea Wx (tIfS c t u) (mIf mc a b) := by
  intro σ H io Fr s S0 r0 s' e D hnx hbk hct hrt hex
  refine tst2 hc S0 e (fun x q cls d H' io' px => hex x q cls d σ H' io' px) fun k s1 H1 io1 e2 px => ?_
  have go : ∀ {t : TS} {a : Mo Fl}, RefS K mg ea Wx t a → a s1 = some (r0, s') → t D σ H1 := fun {t a} h e2 =>
    h σ H1 io1 Fr s1 px.1 _ _ e2 D (fun q σ2 H2 io2 py => hnx q σ2 H2 io2 ⟨py.1, px.2.trans py.2⟩) (fun q σ2 H2 io2 py => hbk q σ2 H2 io2 ⟨py.1, px.2.trans py.2⟩) (fun q σ2 H2 io2 py => hct q σ2 H2 io2 ⟨py.1, px.2.trans py.2⟩)
        (fun f q v H2 io2 py => hrt f q v H2 io2 (py.trans px.2)) fun x q cls d σ2 H2 io2 py => hex x q cls d σ2 H2 io2 ⟨py.1, px.2.trans py.2.1, py.2.2⟩
  cases k with
  | true => exact go h e2
  | false => exact go h' e2
theorem PostE.trans {io1 : List Addr} {H1 : Hp} {s1 : S} {x : RV} (T : Stp io (Ms io Fr s σ) Fr H io1 (Ms io1 Fr s1 σ) H1) (p : PostE K mg ea io1 Fr s1 σ H1 s' io' H' x v) : PostE K mg ea io Fr s σ H s' io' H' x v := by
  cases x with
  | val w => exact ⟨p.1, T.trans p.2.1, p.2.2⟩
  | hnd i => exact ⟨p.1, T.trans p.2.1, p.2.2⟩
  | own c =>
    obtain ⟨a, o, h1, h2, h3, h4, h5, h6⟩ := p
    exact ⟨a, o, h1, h2, h3, h4, T.trans h5, h6⟩
def mAndV (a b : Mo RV) : Mo RV := bnd (mB a) fun x => if x = true then b else ret (.val (.bl false))
def mOrV (a b : Mo RV) : Mo RV := bnd (mB a) fun x => if x = true then ret (.val (.bl true)) else b
def mNotV (a : Mo RV) : Mo RV := bnd (mB a) fun x => ret (.val (.bl (!x)))
theorem ref_andV {t u : TE} {a b : Mo RV} (h : RefE K mg ea Wx t a) (h' : RefE K mg ea Wx u b) : RefE K mg ea Wx (tAndV t u) (mAndV a b) := by
  intro σ H io Fr s S0 r0 s' e Q hok hex
  refine tst2 (ref_test h) S0 e hex fun k s1 H1 io1 e2 px => ?_
  cases k with
  | true => exact h' σ H1 io1 Fr s1 px.1 _ _ e2 Q (fun x q v H2 io2 py => hok x q v H2 io2 (py.trans px.2)) fun x q cls d H2 io2 py => hex x q cls d H2 io2 ⟨py.1, px.2.trans py.2.1, py.2.2⟩
  | false => cases e2; exact hok _ rfl _ _ _ ⟨px.1, px.2, .bl _⟩
theorem ref_orV {t u : TE} {a b : Mo RV} (h : RefE K mg ea Wx t a) (h' : RefE K mg ea Wx u b) : RefE K mg ea Wx (tOrV t u) (mOrV a b) := by
  intro σ H io Fr s S0 r0 s' e Q hok hex
  refine tst2 (ref_test h) S0 e hex fun k s1 H1 io1 e2 px => ?_
  cases k with
  | false => exact h' σ H1 io1 Fr s1 px.1 _ _ e2 Q (fun x q v H2 io2 py => hok x q v H2 io2 (py.trans px.2)) fun x q cls d H2 io2 py => hex x q cls d H2 io2 ⟨py.1, px.2.trans py.2.1, py.2.2⟩
  | true => cases e2; exact hok _ rfl _ _ _ ⟨px.1, px.2, .bl _⟩
theorem ref_notV {t : TE} {a : Mo RV} (h : RefE K mg ea Wx t a) : RefE K mg ea Wx (tNotV t) (mNotV a) := by
  intro σ H io Fr s S0 r0 s' e Q hok hex
  refine tst2 (ref_test h) S0 e hex fun k s1 H1 io1 e2 px => ?_
  cases e2
  exact hok _ rfl _ _ _ ⟨px.1, px.2, .bl _⟩
structure RefG (K : PySem.W.Frag) (mg : Str → Option Value) (ea : EA) (g : TG) (tg : W → Mo Unit) (vs : List Nat) : Prop where
  ne : ∀ w s r s', tg w s = some (r, s') → r = .ok ()
  go : ∀ (σ : L2.St) (H : Hp) (io : List Addr) (Fr : Addr → Prop) (s : S) (w : W) (v : V), Sim K mg ea io Fr s σ H → Rw K mg io (Ms io Fr s σ) H w v →
    ∀ r s', tg w s = some (r, s') → ∀ Q : L2.St → Hp → Prop, (∀ σ', Sim K mg ea io Fr s' σ' H → (∀ b, Ms io Fr s' σ' b → Ms io Fr s σ b) → σ'.length = σ.length → (∀ j, j ∉ vs → σ'[j]? = σ[j]?) → Q σ' H) → g v σ H Q
structure RefGs (K : PySem.W.Frag) (mg : Str → Option Value) (ea : EA) (g : TGs) (tg : List W → Mo Unit) (vs : List Nat) : Prop where
  ne : ∀ w s r s', tg w s = some (r, s') → r = .ok ()
  go : ∀ (σ : L2.St) (H : Hp) (io : List Addr) (Fr : Addr → Prop) (s : S) (ws : List W) (us : List V), Sim K mg ea io Fr s σ H → Rws K mg io (Ms io Fr s σ) H ws us →
    ∀ r s', tg ws s = some (r, s') → ∀ Q : L2.St → Hp → Prop, (∀ σ', Sim K mg ea io Fr s' σ' H → (∀ b, Ms io Fr s' σ' b → Ms io Fr s σ b) → σ'.length = σ.length → (∀ j, j ∉ vs → σ'[j]? = σ[j]?) → Q σ' H) → g us σ H Q
def tgN (i : Nat) (w : W) : Mo Unit := fun s => some (.ok (), { s with r := s.r.set i (.val w) })
def tgsNil : List W → Mo Unit
  | [] => ret ()
  | _ => stk
def tgsCons (t : W → Mo Unit) (u : List W → Mo Unit) : List W → Mo Unit
  | w :: ws => bnd (t w) fun _ => u ws
  | [] => stk
def tgT (n : Nat) (u : List W → Mo Unit) : W → Mo Unit
  | .tup ws => if ws.length = n then u ws else stk
  | _ => stk
theorem ref_tgN (i : Nat) : RefG K mg ea (gName i) (tgN i) [i] where
  ne := fun w s r s' e => by cases e; rfl
  go := by
    intro σ H io Fr s w v S0 R r s' e
    cases e
    intro Q hq
    obtain ⟨S1, l⟩ := S0.setVal (i := i) R
    exact hq _ S1 l (by simp) fun j hj => List.getElem?_set_ne fun z => hj (by simp [z])
theorem ref_tgsNil : RefGs K mg ea gNil tgsNil [] where
  ne := fun w s r s' e => by
    cases w with
    | nil => cases e; rfl
    | cons _ _ => cases e
  go := by
    intro σ H io Fr s ws vs S0 R r s' e
    cases ws with
    | nil => cases e; exact fun Q hq => ⟨R.nil_inv, hq σ S0 (fun _ z => z) rfl fun _ _ => rfl⟩
    | cons w ws => cases e
theorem ref_tgsCons {t : TG} {u : TGs} {tm : W → Mo Unit} {um : List W → Mo Unit} {l1 l2 : List Nat} (h : RefG K mg ea t tm l1) (h' : RefGs K mg ea u um l2) : RefGs K mg ea (gCons t u) (tgsCons tm um) (l1 ++ l2) where
  ne := fun w s r s' e => by
    cases w with
    | nil => cases e
    | cons w ws =>
      rcases bnd_some e with ⟨x, e1, rfl⟩ | ⟨_, s1, e1, e2⟩
      · have := h.ne _ _ _ _ e1
        cases this
      · exact h'.ne _ _ _ _ e2
  go := by
    intro σ H io Fr s ws vs S0 R r s' e
    cases ws with
    | nil => cases e
    | cons w ws =>
      intro Q hq
      obtain ⟨v, r', rfl, h1, h2⟩ := R.cons_inv
      refine ⟨v, r', rfl, ?_⟩
      rcases bnd_some e with ⟨x, e1, rfl⟩ | ⟨_, s1, e1, e2⟩
      · have := h.ne _ _ _ _ e1
        cases this
      · refine h.go σ H io Fr s w v S0 h1 _ _ e1 _ fun σ1 S1 l1 n1 k1 => ?_
        exact h'.go σ1 H io Fr s1 ws r' S1 (h2.pers (.less l1)) _ _ e2 Q fun σ2 S2 l2 n2 k2 => hq σ2 S2 (fun b z => l1 b (l2 b z)) (n2.trans n1) fun j hj => by
          simp only [List.mem_append, not_or] at hj
          exact (k2 j hj.2).trans (k1 j hj.1)
theorem ref_tgT {n : Nat} {u : TGs} {um : List W → Mo Unit} {l : List Nat} (h : RefGs K mg ea u um l) : RefG K mg ea (gTup K n u) (tgT n um) l where
  ne := fun w s r s' e => by
    unfold tgT at e
    split at e
    · split at e
      · exact h.ne _ _ _ _ e
      · cases e
    · cases e
  go := by
    intro σ H io Fr s w v S0 R r s' e Q hq
    unfold tgT at e
    split at e
    · rename_i ws
      split at e
      · rename_i hn
        obtain ⟨a, vs, rfl, ha, r2⟩ := Rn.tup (.inl R)
        exact ⟨a, vs, rfl, ha, by rw [← r2.1]; exact hn, h.go σ H io Fr s ws vs S0 r2 _ _ e Q hq⟩
      · cases e
    · cases e
def mAsgT (t : W → Mo Unit) (m : Mo RV) : Mo Fl := bnd m fun x => bnd (freeze (settle x)) fun w => bnd (t w) fun _ => ret .nx
theorem ref_asgT {te : TE} {g : TG} {m : Mo RV} {t : W → Mo Unit} {l : List Nat} (h : RefE K mg ea Wx te m) (hg : RefG K mg ea g t l) : RefS K mg ea Wx (tAsg te g) (mAsgT t m) := by
  intro σ H io Fr s S0 r0 s' e D hnx hbk hct hrt hex
  refine one2 h S0 e (fun x q cls d H' io' px => hex x q cls d σ H' io' px) fun x v s1 H1 io1 e2 px => ?_
  obtain ⟨S1, T1, R1⟩ := px.settled
  rcases bnd_some e2 with ⟨z, e3, _⟩ | ⟨w, s3, e3, e4⟩
  · obtain ⟨_, _, _, _, q, _⟩ := freeze_ok S1 R1 e3
    cases q
  · obtain ⟨_, l3, S3, w', q, R3⟩ := freeze_ok S1 R1 e3
    cases q
    rcases bnd_some e4 with ⟨z, e5, rfl⟩ | ⟨_, s5, e5, e6⟩
    · have := hg.ne _ _ _ _ e5
      cases this
    · refine hg.go σ H1 io1 Fr s3 _ v S3 R3 _ _ e5 _ fun σ2 S2 l2 _ _ => ?_
      cases e6
      exact hnx rfl σ2 H1 io1 ⟨S2, T1.less fun b z => l3 b (l2 b z)⟩
structure Wk where
  ws : List W
  on : Option Nat
def Wk.ok (k : Wk) (s : S) : Prop := match k.on with
  | none => True
  | some n => s.G[n]? = some (.lst k.ws)
noncomputable instance (k : Wk) (s : S) : Decidable (k.ok s) := Classical.propDecidable _
def Cn (K : PySem.W.Frag) (mg : Str → Option Value) (k : Wk) (io : List Addr) (M : Addr → Prop) (H : Hp) : Prop := match k.on with
  | none => True
  | some n => ∃ a vs, io[n]? = some a ∧ H a = some (.lst vs) ∧ Rws K mg io M H k.ws vs
theorem cn_of {k : Wk} (S0 : Sim K mg ea io Fr s σ H) (h : k.ok s) : Cn K mg k io (Ms io Fr s σ) H := by
  unfold Wk.ok at h
  unfold Cn
  split at h
  · trivial
  · rename_i n e
    have hn : n < io.length := by rw [S0.g.len]; exact get_lt h
    obtain ⟨o, ho, vs, rfl, r⟩ := S0.g.cell n io[n] _ (by simp [hn]) h
    exact ⟨_, vs, by simp [hn], ho, r⟩
structure ItG (K : PySem.W.Frag) (mg : Str → Option Value) (J : It) (k : Wk) (io : List Addr) (M : Addr → Prop) (H : Hp) : Prop where
  go : ∀ io' M' H', Pers io M H io' M' H' → Cn K mg k io' M' H' → ∀ i, i < k.ws.length → J.go i H'
  stop : ∀ io' M' H', Pers io M H io' M' H' → Cn K mg k io' M' H' → J.stop k.ws.length H'
  yld : ∀ io' M' H', Pers io M H io' M' H' → Cn K mg k io' M' H' → (∀ a, M' a → ∃ o, H' a = some o ∧ Nt o) → ∀ i x H2, J.yld i H' x H2 → ∀ w, k.ws[i]? = some w → (H2 = H' ∧ Rw K mg io' M' H' w x) ∨ ∃ p us ws', H' p = none ∧ x = .ref p ∧ w = .tup ws' ∧ H2 = upd H' p (.tup us) ∧ Rws K mg io' M' H' ws' us
def RefI (K : PySem.W.Frag) (mg : Str → Option Value) (ea : EA) (Wx : WX) (wi : TI) (m : Mo Wk) : Prop := ∀ (σ : L2.St) (H : Hp) (io : List Addr) (Fr : Addr → Prop) (s : S), Sim K mg ea io Fr s σ H → ∀ r s', m s = some (r, s') → ∀ R : It → Hp → Prop,
  (∀ k, r = .ok k → ∀ J H' io', PostS K mg ea io Fr s σ H s' σ io' H' → ItG K mg J k io' (Ms io' Fr s' σ) H' → R J H') → (∀ x, r = .error x → ∀ cls d H' io', PostX K mg ea io Fr s σ H s' σ io' H' x cls d → Wx cls d σ H') → wi σ H R
noncomputable def forL (k : Wk) : List W → (W → Mo Fl) → Mo Fl
  | [], _ => fun s => if k.ok s then some (.ok .nx, s) else none
  | w :: ws, b => fun s => if k.ok s then (bnd (b w) fun f => match f with
    | .nx => forL k ws b
    | .ct => forL k ws b
    | .bk => ret .nx
    | .rt f => ret (.rt f)) s else none
noncomputable def mFor (mi : Mo Wk) (t : W → Mo Unit) (mb : Mo Fl) : Mo Fl := bnd mi fun k => forL k k.ws fun w => bnd (t w) fun _ => mb
theorem drop_get {α : Type} : ∀ {l : List α} {i : Nat} (h : i < l.length), l.drop i = l[i] :: l.drop (i + 1)
  | [], i, h => by simp at h
  | x :: l, 0, _ => by simp
  | x :: l, i + 1, h => by simpa using drop_get (l := l) (i := i) (by simpa using h)
theorem ref_for {wi : TI} {g : TG} {tb : TS} {mi : Mo Wk} {t : W → Mo Unit} {mb : Mo Fl} {l : List Nat} (hi : RefI K mg ea Wx wi mi) (hg : RefG K mg ea g t l) (hb : RefS K mg ea Wx tb mb) : RefS K mg ea Wx (tFor wi g tb) (mFor mi t mb) := by
  intro σ H io Fr s S0 r0 s' e D hnx hbk hct hrt hex
  rcases bnd_some e with ⟨x, e1, rfl⟩ | ⟨kw, s1, e1, e2⟩
  · exact hi σ H io Fr s S0 _ _ e1 _ (fun _ q => by cases q) fun x' q cls d H' io' px => by
      cases q
      exact hex _ rfl cls d σ H' io' px
  · refine hi σ H io Fr s S0 _ _ e1 _ (fun kw' q J H1 io1 px G => ?_) (fun _ q => by cases q)
    cases q
    refine ⟨fun i m σ2 H2 => m = kw.ws.length - i ∧ i ≤ kw.ws.length ∧ ∃ io2 s2, Sim K mg ea io2 Fr s2 σ2 H2 ∧ Stp io (Ms io Fr s σ) Fr H io2 (Ms io2 Fr s2 σ2) H2 ∧ Pers io1 (Ms io1 Fr s1 σ) H1 io2 (Ms io2 Fr s2 σ2) H2 ∧
      (∀ x o, H1 x = some o → ∃ o', H2 x = some o') ∧ forL kw (kw.ws.drop i) (fun w => bnd (t w) fun _ => mb) s2 = some (r0, s'),
      ⟨kw.ws.length, by simp, Nat.zero_le _, io1, s1, px.1, px.2, .refl, fun _ o h => ⟨o, h⟩, by simpa using e2⟩, ?_⟩
    rintro i m σ2 H2 ⟨rfl, hle, io2, s2, S2, T2, P2, tk, e3⟩
    have ck : kw.ok s2 := by
      cases hd : kw.ws.drop i with
      | nil =>
        rw [hd] at e3; unfold forL at e3; split at e3
        · assumption
        · cases e3
      | cons w ws =>
        rw [hd] at e3; unfold forL at e3; split at e3
        · assumption
        · cases e3
    have cn := cn_of S2 ck
    by_cases hlt : i < kw.ws.length
    · refine .inr ⟨G.go _ _ _ P2 cn i hlt, fun σ3 H3 => ∃ io3 s3, Sim K mg ea io3 Fr s3 σ3 H3 ∧ Stp io (Ms io Fr s σ) Fr H io3 (Ms io3 Fr s3 σ3) H3 ∧ Pers io1 (Ms io1 Fr s1 σ) H1 io3 (Ms io3 Fr s3 σ3) H3 ∧
        (∀ x o, H1 x = some o → ∃ o', H3 x = some o') ∧ forL kw (kw.ws.drop (i + 1)) (fun w => bnd (t w) fun _ => mb) s3 = some (r0, s'), fun σ3 H3 ⟨io3, s3, a1, a2, a3, a4, a5⟩ => ⟨kw.ws.length - (i + 1), by omega, rfl, hlt, io3, s3, a1, a2, a3, a4, a5⟩, fun x H3 y => ?_⟩
      rw [drop_get hlt] at e3
      have item : ∃ io3 , Sim K mg ea io3 Fr s2 σ2 H3 ∧ Stp io2 (Ms io2 Fr s2 σ2) Fr H2 io3 (Ms io3 Fr s2 σ2) H3 ∧ Rw K mg io3 (Ms io3 Fr s2 σ2) H3 kw.ws[i] x := by
        rcases G.yld _ _ _ P2 cn (fun a z => S2.trkN z) i x H3 y kw.ws[i] (by simp [hlt]) with ⟨rfl, r⟩ | ⟨p, us, ws', hp, rfl, hw, rfl, r⟩
        · exact ⟨io2, S2, .refl, r⟩
        · obtain ⟨S3, T3⟩ := S2.laid (o := .tup us) hp
          have r' := r.pers T3.p
          refine ⟨io2, S3, T3, ?_⟩
          rw [hw]
          refine .tup (.inl ⟨upd_same, fun z => ?_⟩) r'.1 r'.2
          obtain ⟨u, e⟩ := S2.trk z
          rw [hp] at e; cases e
      obtain ⟨io3, S3, T3, R3⟩ := item
      have T23 := T2.trans T3
      have P3 := P2.trans T3.p tk
      have tk3 : ∀ x o, H1 x = some o → ∃ o', H3 x = some o' := fun x o h => let ⟨o', h'⟩ := tk x o h; T3.trk x o' h'
      unfold forL at e3
      rw [if_pos ck] at e3
      have body : ∀ {rb : Except Ex Fl} {s4 : S}, (bnd (t kw.ws[i]) fun _ => mb) s2 = some (rb, s4) → ∀ D' : Ends,
          (∀ f, rb = .ok f → (f = .nx → ∀ σ4 H4 io4, Sim K mg ea io4 Fr s4 σ4 H4 → Stp io3 (Ms io3 Fr s2 σ2) Fr H3 io4 (Ms io4 Fr s4 σ4) H4 → D'.nx σ4 H4) ∧ (f = .bk → ∀ σ4 H4 io4, Sim K mg ea io4 Fr s4 σ4 H4 → Stp io3 (Ms io3 Fr s2 σ2) Fr H3 io4 (Ms io4 Fr s4 σ4) H4 → D'.bk σ4 H4) ∧
            (f = .ct → ∀ σ4 H4 io4, Sim K mg ea io4 Fr s4 σ4 H4 → Stp io3 (Ms io3 Fr s2 σ2) Fr H3 io4 (Ms io4 Fr s4 σ4) H4 → D'.ct σ4 H4) ∧ (∀ u, f = .rt u → ∀ v H4 io4, PostF K mg io3 (Ms io3 Fr s2 σ2) Fr H3 s4.G io4 H4 u v → D'.rt v H4)) →
          (∀ xx, rb = .error xx → ∀ cls d σ4 H4 io4, Sim K mg ea io4 Fr s4 σ4 H4 → Stp io3 (Ms io3 Fr s2 σ2) Fr H3 io4 (Ms io4 Fr s4 σ4) H4 → ExR K mg io4 (Ms io4 Fr s4 σ4) H4 xx cls d → Wx cls d σ4 H4) → g x σ2 H3 fun σ5 H5 => tb D' σ5 H5 := by
        intro rb s4 eb D' hok hxx
        rcases bnd_some eb with ⟨z, e5, rfl⟩ | ⟨_, s5, e5, e6⟩
        · have := hg.ne _ _ _ _ e5
          cases this
        · refine hg.go σ2 H3 io3 Fr s2 _ x S3 R3 _ _ e5 _ fun σ5 S5 l5 _ _ => ?_
          have T5 : Stp io3 (Ms io3 Fr s2 σ2) Fr H3 io3 (Ms io3 Fr s5 σ5) H3 := Stp.refl.less l5
          exact hb σ5 H3 io3 Fr s5 S5 _ _ e6 D' (fun q σ4 H4 io4 p => (hok _ q).1 rfl σ4 H4 io4 p.1 (T5.trans p.2)) (fun q σ4 H4 io4 p => (hok _ q).2.1 rfl σ4 H4 io4 p.1 (T5.trans p.2))
            (fun q σ4 H4 io4 p => (hok _ q).2.2.1 rfl σ4 H4 io4 p.1 (T5.trans p.2)) (fun u q v H4 io4 p => (hok _ q).2.2.2 u rfl v H4 io4 (p.trans T5)) fun xx q cls d σ4 H4 io4 p => hxx xx q cls d σ4 H4 io4 p.1 (T5.trans p.2.1) p.2.2
      rcases bnd_some e3 with ⟨z, e4, rfl⟩ | ⟨f, s4, e4, e5⟩
      · exact body e4 _ (fun _ q => by cases q) fun xx q cls d σ4 H4 io4 a1 a2 a3 => by
          cases q
          exact hex _ rfl cls d σ4 H4 io4 ⟨a1, T23.trans a2, a3⟩
      · refine body e4 _ (fun f' q => ?_) fun _ q => by cases q
        cases q
        have again : forL kw (kw.ws.drop (i + 1)) (fun w => bnd (t w) fun _ => mb) s4 = some (r0, s') → ∀ σ4 H4 io4, Sim K mg ea io4 Fr s4 σ4 H4 → Stp io3 (Ms io3 Fr s2 σ2) Fr H3 io4 (Ms io4 Fr s4 σ4) H4 →
            ∃ io3 s3, Sim K mg ea io3 Fr s3 σ4 H4 ∧ Stp io (Ms io Fr s σ) Fr H io3 (Ms io3 Fr s3 σ4) H4 ∧ Pers io1 (Ms io1 Fr s1 σ) H1 io3 (Ms io3 Fr s3 σ4) H4 ∧ (∀ x o, H1 x = some o → ∃ o', H4 x = some o') ∧ forL kw (kw.ws.drop (i + 1)) (fun w => bnd (t w) fun _ => mb) s3 = some (r0, s') :=
          fun e6 σ4 H4 io4 a1 a2 => ⟨io4, s4, a1, T23.trans a2, P3.trans a2.p tk3, fun x o h => let ⟨o', h'⟩ := tk3 x o h; a2.trk x o' h', e6⟩
        refine ⟨fun q => ?_, fun q => ?_, fun q => ?_, fun u q => ?_⟩
        · subst q; exact again e5
        · subst q
          intro σ4 H4 io4 a1 a2
          cases e5
          exact hnx rfl σ4 H4 io4 ⟨a1, T23.trans a2⟩
        · subst q; exact again e5
        · subst q
          intro v H4 io4 p
          cases e5
          exact hrt _ rfl v H4 io4 (p.trans T23)
    · have hi' : i = kw.ws.length := by omega
      subst hi'
      rw [List.drop_length] at e3
      unfold forL at e3
      rw [if_pos ck] at e3
      cases e3
      exact .inl ⟨G.stop _ _ _ P2 cn, hnx rfl σ2 H2 io2 ⟨S2, T2⟩⟩
end
end Z
set_option Elab.async false
set_option linter.all false
set_option maxRecDepth 100000
namespace Z
open PySem PySem.Spec PyProof.Rows
open L2 hiding XE Takes CX takes_of passes_call passAt MkP PMk ps_raise mk_of ps_try_as ps_try_many pmk_own Takes.imp
open L2N
section
variable {K : PySem.W.Frag} {mg : Str → Option Value} {ea : EA} {io io' : List Addr} {Fr Fr' : Addr → Prop} {s s' s2 : S} {σ σ' : L2.St} {H H' : Hp} {w : W} {v : V} {c : Cell} {o : HO} {a p : Addr} {ws : List W} {vs : List V} {M : Addr → Prop}
variable {Wx : WX}
theorem itg_list (h : H a = some (.lst vs)) (hn : ¬ M a) (r : Rws K mg io M H ws vs) : ItG K mg (Itl K a) ⟨ws, none⟩ io M H where
  go := fun io' M' H' P _ i hi => ⟨vs, vs[i]'(by rw [← r.1]; exact hi), SqL.of (P.keep _ _ h hn), by simp [← r.1, hi]⟩
  stop := fun io' M' H' P _ => ⟨vs, SqL.of (P.keep _ _ h hn), by rw [r.1]; exact Nat.le_refl _⟩
  yld := fun io' M' H' P _ _ i x H2 y w hw => .inl ⟨y.1, (r.2 i w x hw (y.2 vs (SqL.of (P.keep _ _ h hn)))).pers P⟩
theorem itg_frl (h : (Rd H a (.lst vs) ∧ ¬ M a) ∨ KL K a vs) (r : Rws K mg io M H ws vs) : ItG K mg (Itl K a) ⟨ws, none⟩ io M H := by
  have q : ∀ io' M' H', Pers io M H io' M' H' → SqL K H' a vs := fun io' M' H' P => h.imp (fun z => P.rd z.1 z.2) id
  exact {
           go := fun io' M' H' P _ i hi => ⟨vs, vs[i]'(by rw [← r.1]; exact hi), q _ _ _ P, by simp [← r.1, hi]⟩
           stop := fun io' M' H' P _ => ⟨vs, q _ _ _ P, by rw [r.1]; exact Nat.le_refl _⟩
           yld := fun io' M' H' P _ _ i x H2 y w hw => .inl ⟨y.1, (r.2 i w x hw (y.2 vs (q _ _ _ P))).pers P⟩ }
theorem itg_tup (h : (H a = some (.tup vs) ∧ ¬ M a) ∨ (KT K a vs ∧ vs = [])) (r : Rws K mg io M H ws vs) : ItG K mg (Itt K a) ⟨ws, none⟩ io M H := by
  have q : ∀ io' M' H', Pers io M H io' M' H' → SqT K H' a vs := fun io' M' H' P => h.elim (fun z => SqT.of (P.keep _ _ z.1 z.2)) fun z => .inr z.1
  exact {
           go := fun io' M' H' P _ i hi => ⟨vs, vs[i]'(by rw [← r.1]; exact hi), q _ _ _ P, by simp [← r.1, hi]⟩
           stop := fun io' M' H' P _ => ⟨vs, q _ _ _ P, by rw [r.1]; exact Nat.le_refl _⟩
           yld := fun io' M' H' P _ _ i x H2 y w hw => .inl ⟨y.1, (r.2 i w x hw (y.2 vs (q _ _ _ P))).pers P⟩ }
theorem itg_cell {n : Nat} (h0 : io[n]? = some a) : ItG K mg (Itl K a) ⟨ws, some n⟩ io M H := by
  have q : ∀ io' M' H', Pers io M H io' M' H' → Cn K mg ⟨ws, some n⟩ io' M' H' → ∃ vs, H' a = some (.lst vs) ∧ Rws K mg io' M' H' ws vs := fun io' M' H' P c => by
    obtain ⟨a', vs, h1, h2, h3⟩ := c
    rw [P.ext _ _ h0] at h1
    cases h1
    exact ⟨vs, h2, h3⟩
  exact {
           go := fun io' M' H' P c i hi => by
             obtain ⟨vs, h2, h3⟩ := q _ _ _ P c
             exact ⟨vs, vs[i]'(by rw [← h3.1]; exact hi), SqL.of h2, by simp [← h3.1, hi]⟩
           stop := fun io' M' H' P c => by
             obtain ⟨vs, h2, h3⟩ := q _ _ _ P c
             exact ⟨vs, SqL.of h2, by rw [h3.1]; exact Nat.le_refl _⟩
           yld := fun io' M' H' P c _ i x H2 y w hw => by
             obtain ⟨vs, h2, h3⟩ := q _ _ _ P c
             exact .inl ⟨y.1, h3.2 i w x hw (y.2 vs (SqL.of h2))⟩ }
def rngW (lo : Int) (n : Nat) : List W := (List.range n).map fun (k : Nat) => W.int (lo + (k : Int))
theorem itg_rng {lo : Int} {n : Nat} : ItG K mg (Itr lo n) ⟨rngW lo n, none⟩ io M H where
  go := fun io' M' H' P _ i hi => by
    show i < n
    simpa [rngW] using hi
  stop := fun io' M' H' P _ => by
    show n ≤ (rngW lo n).length
    simp [rngW]
  yld := fun io' M' H' P _ _ i x H2 y w hw => by
    obtain ⟨y1, rfl⟩ := y
    refine .inl ⟨y1, ?_⟩
    have hi := get_lt hw
    simp only [rngW, List.length_map, List.length_range] at hi
    simp only [rngW, List.getElem?_map, List.getElem?_range hi, Option.map_some, Option.some.injEq] at hw
    subst hw
    exact .int _
def walkOf (s : S) : W → Option Wk
  | .ref n => match s.G[n]? with
    | some (.lst ws) => some ⟨ws, some n⟩
    | _ => none
  | w => (seqOf w).map fun ws => ⟨ws, none⟩
def mIter (m : Mo RV) : Mo Wk := bnd m fun x => bnd (freeze (settle x)) fun w s => (walkOf s w).map fun k => (.ok k, s)
theorem ref_iter {tl : TE} {m : Mo RV} (h : RefE K mg ea Wx tl m) : RefI K mg ea Wx (fun σ H R => iList K tl σ H R ∨ iTup K tl σ H R) (mIter m) := by
  intro σ H io Fr s S0 r0 s' e R hok hex
  rcases bnd_some e with ⟨x, e1, rfl⟩ | ⟨x, s1, e1, e2⟩
  · exact .inl (h σ H io Fr s S0 _ _ e1 _ (fun _ q => by cases q) fun x' q cls d H' io' px => by
      cases q
      exact hex _ rfl cls d H' io' px)
  · have key : ∀ {Q : VK}, (∀ w v H1 io1, (walkOf s' w).map (fun k => (Except.ok k, s')) = some (r0, s') → Sim K mg ea io1 Fr s' σ H1 → Stp io (Ms io Fr s σ) Fr H io1 (Ms io1 Fr s' σ) H1 → Rw K mg io1 (Ms io1 Fr s' σ) H1 w v → (∃ s4, freeze (settle x) s1 = some (.ok w, s4)) → Q v H1) → tl σ H Q := by
      intro Q hQ
      refine h σ H io Fr s S0 _ _ e1 _ (fun x' q v H1 io1 px => ?_) (fun _ q => by cases q)
      cases q
      obtain ⟨S1, T1, R1⟩ := px.settled
      rcases bnd_some e2 with ⟨z, e3, _⟩ | ⟨w, s3, e3, e4⟩
      · obtain ⟨_, _, _, _, q, _⟩ := freeze_ok S1 R1 e3
        cases q
      · obtain ⟨_, l3, S3, w', q, R3⟩ := freeze_ok S1 R1 e3
        cases q
        obtain ⟨k, h1, h2⟩ := Option.map_eq_some_iff.mp e4
        cases h2
        exact hQ w v H1 io1 (by rw [h1]; rfl) S3 (T1.less l3) R3 ⟨_, e3⟩
    rcases bnd_some e2 with ⟨z, e3, rfl⟩ | ⟨w0, s3, e3, e4⟩
    · refine .inl (key fun w v H1 io1 k S1 T1 R1 ⟨s4, q⟩ => ?_)
      rw [e3] at q; cases q
    · cases w0 with
      | tup ws =>
        refine .inr (key fun w v H1 io1 k S1 T1 R1 ⟨s4, q⟩ => ?_)
        rw [e3] at q
        cases q
        cases k
        cases R1 with
        | tup h1 h2 h3 => exact ⟨_, rfl, ⟨_, h1.elim (fun z => SqT.of z.1) fun z => .inr z.1⟩, hok _ rfl _ _ _ ⟨S1, T1⟩ (itg_tup h1 ⟨h2, h3⟩)⟩
      | lst ws =>
        refine .inl (key fun w v H1 io1 k S1 T1 R1 ⟨s4, q⟩ => ?_)
        rw [e3] at q
        cases q
        cases k
        cases R1 with
        | lst h1 h2 h3 h4 => exact ⟨_, rfl, ⟨_, SqL.of h1⟩, hok _ rfl _ _ _ ⟨S1, T1⟩ (itg_list h1 h2 ⟨h3, h4⟩)⟩
      | frl ws =>
        refine .inl (key fun w v H1 io1 k S1 T1 R1 ⟨s4, q⟩ => ?_)
        rw [e3] at q
        cases q
        cases k
        cases R1 with
        | frl h1 h3 h4 => exact ⟨_, rfl, ⟨_, h1.imp (fun z => z.1) id⟩, hok _ rfl _ _ _ ⟨S1, T1⟩ (itg_frl h1 ⟨h3, h4⟩)⟩
      | ref n =>
        refine .inl (key fun w v H1 io1 k S1 T1 R1 ⟨s4, q⟩ => ?_)
        rw [e3] at q
        cases q
        obtain ⟨kk, h1, h2⟩ := Option.map_eq_some_iff.mp k
        cases h2
        unfold walkOf at h1
        simp only at h1
        split at h1
        · rename_i ws hG
          cases h1
          cases R1 with
          | ref hn =>
            obtain ⟨o, ho, vs, rfl, r⟩ := S1.g.cell n _ _ hn hG
            exact ⟨_, rfl, ⟨_, SqL.of ho⟩, hok _ rfl _ _ _ ⟨S1, T1⟩ (itg_cell hn)⟩
        · cases h1
      | _ => cases e4
def Rk (j : Int) : Prop := -(2 ^ 62) ≤ j ∧ j < 2 ^ 62
noncomputable instance (j : Int) : Decidable (Rk j) := Classical.propDecidable _
def Lk (j : Int) : Prop := 0 ≤ j ∧ j < 2 ^ 63
noncomputable instance (j : Int) : Decidable (Lk j) := Classical.propDecidable _
noncomputable def mRng1 (ms : Mo (List RV)) : Mo Wk := bnd ms fun xs => bnd (lookAll xs) fun ws => match ws with
  | [.int j] => if Rk j then ret ⟨rngW 0 j.toNat, none⟩ else stk
  | _ => stk
noncomputable def mRng2 (ms : Mo (List RV)) : Mo Wk := bnd ms fun xs => bnd (lookAll xs) fun ws => match ws with
  | [.int i, .int j] => if Rk i ∧ Rk j then ret ⟨rngW i (j - i).toNat, none⟩ else stk
  | _ => stk
theorem ref_rng1 {ta : TA} {ms : Mo (List RV)} (h : RefA K mg ea Wx ta ms) : RefI K mg ea Wx (iRng1 ta) (mRng1 ms) := by
  intro σ H io Fr s S0 r0 s' e R hok hex
  refine arg2 h S0 e hex fun xs vs s1 H1 io1 e2 px R1 => ?_
  rcases bnd_some e2 with ⟨x, e3, rfl⟩ | ⟨ws, s2, e3, e4⟩
  · obtain ⟨_, _, q, _⟩ := lookAll_ok px.1 R1 e3
    cases q
  · obtain ⟨rfl, ws', q, r2⟩ := lookAll_ok px.1 R1 e3
    cases q
    split at e4
    · split at e4
      · rename_i hz
        cases e4
        obtain ⟨v, rfl, rv⟩ := p1 r2
        have := rv.int
        subst this
        exact ⟨_, rfl, hz.1, hz.2, hok _ rfl _ _ _ px itg_rng⟩
      · cases e4
    · cases e4
theorem ref_rng2 {ta : TA} {ms : Mo (List RV)} (h : RefA K mg ea Wx ta ms) : RefI K mg ea Wx (iRng2 ta) (mRng2 ms) := by
  intro σ H io Fr s S0 r0 s' e R hok hex
  refine arg2 h S0 e hex fun xs vs s1 H1 io1 e2 px R1 => ?_
  rcases bnd_some e2 with ⟨x, e3, rfl⟩ | ⟨ws, s2, e3, e4⟩
  · obtain ⟨_, _, q, _⟩ := lookAll_ok px.1 R1 e3
    cases q
  · obtain ⟨rfl, ws', q, r2⟩ := lookAll_ok px.1 R1 e3
    cases q
    split at e4
    · split at e4
      · rename_i hz
        cases e4
        obtain ⟨v, v', rfl, rv, rv'⟩ := p2 r2
        have := rv.int
        subst this
        have := rv'.int
        subst this
        exact ⟨_, _, rfl, ⟨hz.1.1, hz.1.2, hz.2.1, hz.2.2⟩, hok _ rfl _ _ _ px itg_rng⟩
      · cases e4
    · cases e4
variable (K mg ea Wx)
def tOf (m : Mo RV) : TE := fun σ H Q => ∃ io Fr s r s', Sim K mg ea io Fr s σ H ∧ m s = some (r, s') ∧ (∀ x, r = .ok x → ∀ v H' io', PostE K mg ea io Fr s σ H s' io' H' x v → Q v H') ∧
  (∀ x, r = .error x → ∀ cls d H' io', PostX K mg ea io Fr s σ H s' σ io' H' x cls d → Wx cls d σ H')
def ttOf (m : Mo Bool) : TT := fun σ H Q => ∃ io Fr s r s', Sim K mg ea io Fr s σ H ∧ m s = some (r, s') ∧ (∀ b, r = .ok b → ∀ H' io', PostS K mg ea io Fr s σ H s' σ io' H' → Q b H') ∧
  (∀ x, r = .error x → ∀ cls d H' io', PostX K mg ea io Fr s σ H s' σ io' H' x cls d → Wx cls d σ H')
def gOf (t : W → Mo Unit) (l : List Nat) : TG := fun v σ H Q => ∃ io Fr s w r s', Sim K mg ea io Fr s σ H ∧ Rw K mg io (Ms io Fr s σ) H w v ∧ t w s = some (r, s') ∧
  (∀ σ', Sim K mg ea io Fr s' σ' H → (∀ b, Ms io Fr s' σ' b → Ms io Fr s σ b) → σ'.length = σ.length → (∀ j, j ∉ l → σ'[j]? = σ[j]?) → Q σ' H)
variable {K mg ea Wx}
theorem ref_tOf (m : Mo RV) : RefE K mg ea Wx (tOf K mg ea Wx m) m := fun σ H io Fr s S0 r s' e Q h1 h2 => ⟨io, Fr, s, r, s', S0, e, h1, h2⟩
theorem ref_ttOf (m : Mo Bool) : RefT K mg ea Wx (ttOf K mg ea Wx m) m := fun σ H io Fr s S0 r s' e Q h1 h2 => ⟨io, Fr, s, r, s', S0, e, h1, h2⟩
theorem ref_gOf {t : W → Mo Unit} {l : List Nat} (ne : ∀ w s r s', t w s = some (r, s') → r = .ok ()) : RefG K mg ea (gOf K mg ea t l) t l := ⟨ne, fun σ H io Fr s w v S0 R r s' e Q h => ⟨io, Fr, s, w, r, s', S0, R, e, h⟩⟩
theorem Sim.updFr {o' : HO} (x : Sim K mg ea io Fr s σ H) (hp : Fr p) (ho : H p = some o) (hN : Nt o' := by intro _ z; cases z) : Sim K mg ea io Fr s σ (upd H p o') := by
  have ne : ∀ b, ¬ Ms io Fr s σ b → b ≠ p := fun b h z => by
    subst z
    exact h (.inr (.inl hp))
  have q : Pers io (Ms io Fr s σ) H io (Ms io Fr s σ) (upd H p o') := ⟨fun b u e h => by rw [upd_ne (ne b h)]; exact e, fun b z => .inl z, fun _ _ e => e⟩
  have nio : ∀ b ∈ io, b ≠ p := fun b hb z => by
    subst z
    exact x.g.dj b hb (.inl hp)
  refine ⟨x.len, ⟨x.g.len, fun n b c h1 h2 => ?_, x.g.nd, x.g.dj, fun b z => ?_⟩, fun i w e => ?_, fun i c e => ?_, x.dist, fun i e k => let ⟨h1, h2⟩ := x.exc i e k; ⟨h1, h2.pers q⟩⟩
  · obtain ⟨u, e, r⟩ := x.g.cell n b c h1 h2
    exact ⟨u, by rw [upd_ne (nio b (List.mem_of_getElem? h1))]; exact e, r.pers q⟩
  · by_cases h : b = p
    · exact ⟨o', by rw [h, upd_same], hN⟩
    · obtain ⟨u, e, n⟩ := x.g.fr b z
      exact ⟨u, by rw [upd_ne h]; exact e, n⟩
  · obtain ⟨v, h1, h2⟩ := x.val i w e
    exact ⟨v, h1, h2.pers q⟩
  · obtain ⟨b, u, h1, h2, h3, h4⟩ := x.own i c e
    exact ⟨b, u, h1, by rw [upd_ne (fun z => by subst z; exact h4 hp)]; exact h2, h3.pers q, h4⟩
theorem Stp.updNew {M M' : Addr → Prop} {o' : HO} (T : Stp io M Fr H io' M' H') (hp : H p = none) (hf : ¬ Fr p) (h' : H' p = some o) : Stp io M Fr H io' M' (upd H' p o') where
  p := ⟨fun b u e h => by rw [upd_ne (ne_of_none e hp)]; exact T.p.keep b u e h, T.p.new, T.p.ext⟩
  fr := fun b z => by rw [upd_ne (fun e => by subst e; exact hf z)]; exact T.fr b z
  trk := fun b u e => by rw [upd_ne (ne_of_none e hp)]; exact T.trk b u e
def wipeR (r : List SV) : List Nat → List SV
  | [] => r
  | v :: vs => (wipeR r vs).set v .non
def wipeS (vs : List Nat) (s : S) : S := { s with r := wipeR s.r vs }
theorem wipeR_len (r : List SV) : ∀ l : List Nat, (wipeR r l).length = r.length
  | [] => rfl
  | v :: vs => by unfold wipeR; rw [List.length_set, wipeR_len r vs]
theorem wipeR_get {r : List SV} {i : Nat} : ∀ {l : List Nat}, (i ∉ l → (wipeR r l)[i]? = r[i]?) ∧ (i ∈ l → (wipeR r l)[i]? = some .non ∨ (wipeR r l)[i]? = none)
  | [] => ⟨fun _ => rfl, fun h => by simp at h⟩
  | v :: vs => by
    obtain ⟨i1, i2⟩ := wipeR_get (r := r) (i := i) (l := vs)
    refine ⟨fun h => ?_, fun h => ?_⟩
    · simp only [List.mem_cons, not_or] at h
      unfold wipeR
      rw [List.getElem?_set_ne (fun z => h.1 z.symm)]
      exact i1 h.2
    · unfold wipeR
      by_cases e : v = i
      · subst e
        rcases Nat.lt_or_ge v (wipeR r vs).length with q | q
        · exact .inl (List.getElem?_set_self q)
        · exact .inr (List.getElem?_eq_none (by simpa using q))
      · rw [List.getElem?_set_ne e]
        rcases List.mem_cons.mp h with z | z
        · exact absurd z.symm e
        · exact i2 z
theorem wipe_get {σ : L2.St} {i : Nat} : ∀ {l : List Nat}, (i ∉ l → (wipe σ l)[i]? = σ[i]?) ∧ (i ∈ l → i < σ.length → (wipe σ l)[i]? = some none)
  | [] => ⟨fun _ => rfl, fun h => by simp at h⟩
  | v :: vs => by
    obtain ⟨i1, i2⟩ := wipe_get (σ := σ) (i := i) (l := vs)
    refine ⟨fun h => ?_, fun h hl => ?_⟩
    · simp only [List.mem_cons, not_or] at h
      unfold wipe
      rw [List.getElem?_set_ne (fun z => h.1 z.symm)]
      exact i1 h.2
    · unfold wipe
      by_cases e : v = i
      · subst e
        exact List.getElem?_set_self (by rw [wipe_length]; exact hl)
      · rw [List.getElem?_set_ne e]
        rcases List.mem_cons.mp h with z | z
        · exact absurd z.symm e
        · exact i2 z hl
theorem wipe_eq {σ σ' : L2.St} {l : List Nat} (hl : σ'.length = σ.length) (h : ∀ j, j ∉ l → σ'[j]? = σ[j]?) : wipe σ' l = wipe σ l := by
  apply List.ext_getElem?
  intro j
  by_cases hj : j ∈ l
  · rcases Nat.lt_or_ge j σ.length with q | q
    · rw [(wipe_get (σ := σ')).2 hj (by rw [hl]; exact q), (wipe_get (σ := σ)).2 hj q]
    · rw [List.getElem?_eq_none (by rw [wipe_length, hl]; exact q), List.getElem?_eq_none (by rw [wipe_length]; exact q)]
  · rw [(wipe_get (σ := σ')).1 hj, (wipe_get (σ := σ)).1 hj, h j hj]
theorem wipe_wipe {σ : L2.St} {l : List Nat} : wipe (wipe σ l) l = wipe σ l := wipe_eq (wipe_length σ l) fun j hj => (wipe_get (σ := σ)).1 hj
theorem Sim.wiped {l : List Nat} (x : Sim K mg ea io Fr s σ H) (hl : σ'.length = σ.length) (h : ∀ j, j ∉ l → σ'[j]? = σ[j]?) : Sim K mg ea io Fr (wipeS l s) σ' H ∧ (∀ b, Ms io Fr (wipeS l s) σ' b → Ms io Fr s σ b) := by
  refine x.sub (by rw [wipeR_len, x.len, hl]) fun i => ?_
  by_cases hi : i ∈ l
  · exact .inr ((wipeR_get (r := s.r)).2 hi)
  · exact .inl ⟨(wipeR_get (r := s.r)).1 hi, h i hi⟩
noncomputable def lcL (vs : List Nat) (t : W → Mo Unit) (tt : Mo Bool) (me : Mo RV) (k : Wk) : List W → List W → Mo RV
  | [], acc => fun s => if k.ok s then some (.ok (.own (.lst acc)), s) else none
  | w :: ws, acc => fun s => if k.ok s then (match (bnd (t w) fun _ => tt) s with
    | some (.ok true, s1) => match (bnd me fun x => freeze (settle x)) s1 with
      | some (.ok y, s2) => if acc.length < sz then lcL vs t tt me k ws (acc ++ [y]) (wipeS vs s2) else none
      | _ => none
    | some (.ok false, s1) => lcL vs t tt me k ws acc (wipeS vs s1)
    | _ => none) else none
noncomputable def mLc (vs : List Nat) (mi : Mo Wk) (t : W → Mo Unit) (tt : Mo Bool) (me : Mo RV) : Mo RV := bnd mi fun k => fun s => lcL vs t tt me k k.ws [] (wipeS vs s)
def W0 : WX := fun _ _ _ _ => False
theorem ref_lc {wi : TI} {g : TG} {tt : TT} {te : TE} {mi : Mo Wk} {t : W → Mo Unit} {mt : Mo Bool} {me : Mo RV} {l vs : List Nat} (hi : RefI K mg ea Wx wi mi) (hg : RefG K mg ea g t l) (hl : ∀ i ∈ l, i ∈ vs) (ht : RefT K mg ea W0 tt mt) (he : RefE K mg ea W0 te me) :
    RefE K mg ea Wx (tLc wi g tt te vs) (mLc vs mi t mt me) := by
  intro σ H io Fr s S0 r0 s' e Q hok hex
  rcases bnd_some e with ⟨x, e1, rfl⟩ | ⟨kw, s1, e1, e2⟩
  · exact hi σ H io Fr s S0 _ _ e1 _ (fun _ q => by cases q) fun x' q cls d H' io' px => by
      cases q
      exact hex _ rfl cls d H' io' px
  · refine hi σ H io Fr s S0 _ _ e1 _ (fun kw' q J H1 io1 px G => ?_) (fun _ q => by cases q)
    cases q
    intro D hD
    obtain ⟨SD, TD, nD⟩ := px.1.alloc (o := .lst []) hD
    have nFD : ¬ Fr D := fun z => nD (.inl z)
    obtain ⟨SW, lW⟩ := SD.wiped (l := vs) (σ' := wipe σ vs) (wipe_length σ vs) fun j hj => (wipe_get (σ := σ)).1 hj
    have TW := TD.less lW
    refine ⟨fun i m H2 => m = kw.ws.length - i ∧ i ≤ kw.ws.length ∧ ∃ io2 s2 acc av, Sim K mg ea io2 (pls Fr D) s2 (wipe σ vs) H2 ∧ Stp io1 (Ms io1 Fr s1 σ) Fr H1 io2 (Ms io2 (pls Fr D) s2 (wipe σ vs)) H2 ∧
      H2 D = some (.lst av) ∧ Rws K mg io2 (Ms io2 (pls Fr D) s2 (wipe σ vs)) H2 acc av ∧ (∀ j, j ∈ vs → s2.r[j]? = some .non ∨ s2.r[j]? = none) ∧ lcL vs t mt me kw (kw.ws.drop i) acc s2 = some (r0, s'),
      ⟨kw.ws.length, by simp, Nat.zero_le _, io1, wipeS vs s1, [], [], SW, TW, upd_same, Rws.nil, fun j hj => (wipeR_get (r := s1.r)).2 hj, by simpa using e2⟩, ?_⟩
    rintro i m H2 ⟨rfl, hle, io2, s2, acc, av, S2, T2, hA, RA, wn, e3⟩
    have ck : kw.ok s2 := by
      cases hd : kw.ws.drop i with
      | nil =>
        rw [hd] at e3; unfold lcL at e3; split at e3
        · assumption
        · cases e3
      | cons w ws =>
        rw [hd] at e3; unfold lcL at e3; split at e3
        · assumption
        · cases e3
    have cn := cn_of S2 ck
    by_cases hlt : i < kw.ws.length
    · refine .inr ⟨G.go _ _ _ T2.p cn i hlt, fun H3 => ∃ io3 s3 acc av, Sim K mg ea io3 (pls Fr D) s3 (wipe σ vs) H3 ∧ Stp io1 (Ms io1 Fr s1 σ) Fr H1 io3 (Ms io3 (pls Fr D) s3 (wipe σ vs)) H3 ∧
        H3 D = some (.lst av) ∧ Rws K mg io3 (Ms io3 (pls Fr D) s3 (wipe σ vs)) H3 acc av ∧ (∀ j, j ∈ vs → s3.r[j]? = some .non ∨ s3.r[j]? = none) ∧ lcL vs t mt me kw (kw.ws.drop (i + 1)) acc s3 = some (r0, s'),
        fun H3 ⟨io3, s3, acc, av, a1, a2, a3, a4, a6, a5⟩ => ⟨kw.ws.length - (i + 1), by omega, rfl, hlt, io3, s3, acc, av, a1, a2, a3, a4, a6, a5⟩, fun x H3 y => ?_⟩
      rw [drop_get hlt] at e3
      have item : ∃ io3, Sim K mg ea io3 (pls Fr D) s2 (wipe σ vs) H3 ∧ Stp io2 (Ms io2 (pls Fr D) s2 (wipe σ vs)) (pls Fr D) H2 io3 (Ms io3 (pls Fr D) s2 (wipe σ vs)) H3 ∧ Rw K mg io3 (Ms io3 (pls Fr D) s2 (wipe σ vs)) H3 kw.ws[i] x := by
        rcases G.yld _ _ _ T2.p cn (fun a z => S2.trkN z) i x H3 y kw.ws[i] (by simp [hlt]) with ⟨rfl, r⟩ | ⟨p, us, ws', hp, rfl, hw, rfl, r⟩
        · exact ⟨io2, S2, .refl, r⟩
        · obtain ⟨S3, T3⟩ := S2.laid (o := .tup us) hp
          have r' := r.pers T3.p
          refine ⟨io2, S3, T3, ?_⟩
          rw [hw]
          refine .tup (.inl ⟨upd_same, fun z => ?_⟩) r'.1 r'.2
          obtain ⟨u, e⟩ := S2.trk z
          rw [hp] at e; cases e
      obtain ⟨io3, S3, T3, R3⟩ := item
      have T23 := T2.trans (T3.frless pls.sub)
      have hA3 : H3 D = some (.lst av) := (T3.fr D (.inr rfl)).trans hA
      have RA3 := RA.pers T3.p
      unfold lcL at e3
      rw [if_pos ck] at e3
      cases ex : (bnd (t kw.ws[i]) fun _ => mt) s2 with
      | none => rw [ex] at e3; cases e3
      | some pr =>
        obtain ⟨rb, s4⟩ := pr
        rw [ex] at e3
        rcases bnd_some ex with ⟨z, e5, rfl⟩ | ⟨_, s5, e5, e6⟩
        · have := hg.ne _ _ _ _ e5
          cases this
        · refine hg.go (wipe σ vs) H3 io3 (pls Fr D) s2 _ x S3 R3 _ _ e5 _ fun σ5 S5 l5 n5 k5 => ?_
          have k5' : ∀ j, j ∉ vs → σ5[j]? = (wipe σ vs)[j]? := fun j hj => k5 j fun z => hj (hl j z)
          have we : wipe σ5 vs = wipe σ vs := by rw [wipe_eq n5 k5', wipe_wipe]
          refine ⟨we, ?_⟩
          have T5 : Stp io3 (Ms io3 (pls Fr D) s2 (wipe σ vs)) (pls Fr D) H3 io3 (Ms io3 (pls Fr D) s5 σ5) H3 := Stp.refl.less l5
          have back : ∀ {s6 : S} {H6 : Hp} {io6 : List Addr}, Sim K mg ea io6 (pls Fr D) s6 σ5 H6 → Sim K mg ea io6 (pls Fr D) (wipeS vs s6) (wipe σ vs) H6 ∧ (∀ b, Ms io6 (pls Fr D) (wipeS vs s6) (wipe σ vs) b → Ms io6 (pls Fr D) s6 σ5 b) := fun S6 =>
            S6.wiped (by rw [n5]) fun j hj => (k5' j hj).symm
          cases rb with
          | error z => cases e3
          | ok b =>
            refine ht σ5 H3 io3 (pls Fr D) s5 S5 _ _ e6 _ (fun b' q H6 io6 p6 => ?_) fun z q => by cases q
            cases q
            have T36 := T23.trans ((T5.trans p6.2).frless pls.sub)
            have hA6 : H6 D = some (.lst av) := (p6.2.fr D (.inr rfl)).trans hA3
            have RA6 := (RA3.pers T5.p).pers p6.2.p
            cases b with
            | false =>
              rw [if_neg Bool.false_ne_true]
              obtain ⟨S7, l7⟩ := back p6.1
              exact ⟨io6, _, acc, av, S7, T36.less l7, hA6, RA6.pers (.less l7), fun j hj => (wipeR_get (r := s4.r)).2 hj, e3⟩
            | true =>
              rw [if_pos rfl]
              simp only at e3
              cases ey : (bnd me fun x => freeze (settle x)) s4 with
              | none => rw [ey] at e3; cases e3
              | some pr2 =>
                obtain ⟨ry, s7⟩ := pr2
                rw [ey] at e3
                cases ry with
                | error z => cases e3
                | ok yv =>
                  simp only at e3
                  split at e3
                  · rename_i hz
                    refine one2 he p6.1 ey (fun x q => by cases q) fun xr v s8 H8 io8 e8 p8 => ?_
                    obtain ⟨S8, T8, R8⟩ := p8.settled
                    obtain ⟨_, l9, S9, w', q, R9⟩ := freeze_ok S8 R8 e8
                    cases q
                    have hA8 : H8 D = some (.lst av) := (T8.fr D (.inr rfl)).trans hA6
                    have RA8 := (RA6.pers T8.p).pers (.less l9)
                    refine ⟨av, hA8, by rw [sz_eq, ← RA8.1]; exact hz, ?_⟩
                    have S10 := S9.updFr (o' := .lst (av ++ [v])) (.inr rfl) hA8
                    obtain ⟨S11, l11⟩ := back S10
                    have T11 : Stp io1 (Ms io1 Fr s1 σ) Fr H1 io8 (Ms io8 (pls Fr D) (wipeS vs s7) (wipe σ vs)) (upd H8 D (.lst (av ++ [v]))) :=
                      ((T36.trans ((T8.less l9).frless pls.sub)).updNew hD nFD hA8).less l11
                    have PD : Pers io8 (Ms io8 (pls Fr D) s7 σ5) H8 io8 (Ms io8 (pls Fr D) (wipeS vs s7) (wipe σ vs)) (upd H8 D (.lst (av ++ [v]))) :=
                      ⟨fun b u e h => by rw [upd_ne (fun z => by subst z; exact h (.inr (.inl (.inr rfl))))]; exact e, fun b z => .inl (l11 b z), fun _ _ e => e⟩
                    exact ⟨io8, _, acc ++ [yv], av ++ [v], S11, T11, upd_same, (RA8.append (Rws.one R9)).pers PD, fun j hj => (wipeR_get (r := s7.r)).2 hj, e3⟩
                  · cases e3
    · have hi' : i = kw.ws.length := by omega
      subst hi'
      rw [List.drop_length] at e3
      unfold lcL at e3
      rw [if_pos ck] at e3
      cases e3
      refine .inl ⟨G.stop _ _ _ T2.p cn, hok _ rfl (.ref D) H2 io2 ?_⟩
      obtain ⟨S3, l3⟩ := S2.sub (r' := s'.r) (σ' := σ) (by rw [S2.len, wipe_length]) fun j => by
        by_cases hj : j ∈ vs
        · exact .inr (wn j hj)
        · exact .inl ⟨rfl, ((wipe_get (σ := σ)).1 hj).symm⟩
      refine ⟨D, .lst av, rfl, hA, fun z => ?_, S3, (px.2.trans T2).less l3, av, rfl, RA.pers (.less l3)⟩
      rcases z with z | ⟨j, c, h1, h2⟩
      · exact nFD z
      · obtain ⟨b, o, q1, _, _, q4⟩ := S3.own j c h1
        rw [h2] at q1
        cases q1
        exact q4 (.inr rfl)
end
end Z
set_option Elab.async false
set_option linter.all false
set_option maxRecDepth 100000
namespace Z
open PySem PySem.Spec PyProof.Rows
open L2 hiding XE Takes CX takes_of passes_call passAt MkP PMk ps_raise mk_of ps_try_as ps_try_many pmk_own Takes.imp
open L2N
section
variable {X : Cx} {ea : EA} {Wx : WX} {a b c e : Expr} {ma mb mc m : Mo RV} {pos pos' : Pos} {st : Stmt} {rest sts : List Stmt} {f g : Mo Fl} {mt : Mo Bool}
theorem PE.imp {t t' : TE} (h : PE X e t) (k : ∀ σ H Q, t' σ H Q → t σ H Q) : PE X e t' := ⟨fun pins s σ H Q I q => h.run pins s σ H Q I (k _ _ _ q)⟩
theorem Pee.can (h : Pee X ea Wx e m) : PE X e (tOf X.K X.mg ea Wx m) := by
  obtain ⟨t, p, r⟩ := h.ex
  exact PE.imp p fun σ H Q ⟨io, Fr, s, r0, s', S0, e, h1, h2⟩ => r σ H io Fr s S0 r0 s' e Q h1 h2
theorem Pet.can (h : Pet X ea Wx e mt) : PT X e (ttOf X.K X.mg ea Wx mt) := by
  obtain ⟨t, p, r⟩ := h.ex
  exact ⟨fun pins s σ H Q I ⟨io, Fr, s1, r0, s', S0, e, h1, h2⟩ => p.run pins s σ H Q I (r σ H io Fr s1 S0 r0 s' e Q h1 h2)⟩
structure Peg (X : Cx) (ea : EA) (tg : Expr) (t : W → Mo Unit) (l : List Nat) : Prop where
  ex : ∃ g, PG X tg g ∧ RefG X.K X.mg ea g t l
structure Pegs (X : Cx) (ea : EA) (tgs : List Expr) (t : List W → Mo Unit) (l : List Nat) : Prop where
  ex : ∃ g, PGs X tgs g ∧ RefGs X.K X.mg ea g t l
structure Pei (X : Cx) (ea : EA) (Wx : WX) (tg iter : Expr) (m : Mo Wk) : Prop where
  ex : ∃ wi, PI X tg iter wi ∧ RefI X.K X.mg ea Wx wi m
theorem Peg.can {tg : Expr} {t : W → Mo Unit} {l : List Nat} (h : Peg X ea tg t l) : PG X tg (gOf X.K X.mg ea t l) := by
  obtain ⟨g, p, r⟩ := h.ex
  exact ⟨fun pins s σ H v u Q I rv ⟨io, Fr, s1, w, r0, s', S0, R, e, h⟩ => p.run pins s σ H v u Q I rv (r.go σ H io Fr s1 w v S0 R r0 s' e Q h)⟩
theorem Peg.ne {tg : Expr} {t : W → Mo Unit} {l : List Nat} (h : Peg X ea tg t l) : ∀ w s r s', t w s = some (r, s') → r = .ok () := let ⟨_, _, r⟩ := h.ex; r.ne
theorem PI.or {tg iter : Expr} {wi wi' : TI} (h : PI X tg iter wi) (h' : PI X tg iter wi') : PI X tg iter (fun σ H R => wi σ H R ∨ wi' σ H R) := ⟨fun pins s σ H R I q => q.elim (h.run pins s σ H R I) (h'.run pins s σ H R I)⟩
theorem pee_one {op} (h : Pee X ea Wx a ma) : Pee X ea Wx (.BoolOp op [a] pos) ma := let ⟨_, p, r⟩ := h.ex; ⟨_, pe_one p, r⟩
theorem pee_and {es : List Expr} (ha : Pee X ea Wx a ma) (hb : Pee X ea Wx (.BoolOp .And (b :: es) pos) mb) : Pee X ea Wx (.BoolOp .And (a :: b :: es) pos) (mAndV ma mb) :=
  let ⟨_, p1, r1⟩ := ha.ex; let ⟨_, p2, r2⟩ := hb.ex; ⟨_, L2.pe_and p1 p2, ref_andV r1 r2⟩
theorem pee_or {es : List Expr} (ha : Pee X ea Wx a ma) (hb : Pee X ea Wx (.BoolOp .Or (b :: es) pos) mb) : Pee X ea Wx (.BoolOp .Or (a :: b :: es) pos) (mOrV ma mb) :=
  let ⟨_, p1, r1⟩ := ha.ex; let ⟨_, p2, r2⟩ := hb.ex; ⟨_, L2.pe_or p1 p2, ref_orV r1 r2⟩
theorem pee_not (ha : Pee X ea Wx a ma) : Pee X ea Wx (.UnaryOp .Not a pos) (mNotV ma) := let ⟨_, p1, r1⟩ := ha.ex; ⟨_, L2.pe_not p1, ref_notV r1⟩
theorem peg_name (i : Nat) {x : Str} (hN : X.N.Nodup) (hi : X.N[i]? = some x := by rfl) (hx : Loc X.env.scope x := by first | exact Or.inl rfl | exact Or.inr rfl) (hf : X.fn x = true ∨ X.env.scope.names.lookup x = some .local := by first | exact .inl rfl | exact .inr rfl) :
    Peg X ea (.Name x pos) (tgN i) [i] := ⟨_, pg_name hN hi hx hf, ref_tgN i⟩
theorem pegs_nil : Pegs X ea [] tgsNil [] := ⟨_, pgs_nil, ref_tgsNil⟩
theorem pegs_cons {es : List Expr} {t : W → Mo Unit} {u : List W → Mo Unit} {l l' : List Nat} (h1 : Peg X ea e t l) (h2 : Pegs X ea es u l') (hs : (assignEach (e :: es) X.env).map (·.2) = assign e X.env :: (assignEach es X.env).map (·.2) := by rfl) :
    Pegs X ea (e :: es) (tgsCons t u) (l ++ l') := let ⟨_, p, r⟩ := h1.ex; let ⟨_, p', r'⟩ := h2.ex; ⟨_, pgs_cons p p' hs, ref_tgsCons r r'⟩
theorem peg_tup {es : List Expr} {k : Nat} {u : List W → Mo Unit} {l : List Nat} {n : Nat} (h : Pegs X ea es u l) (hc : X.calm = true := by rfl) (hn : (assignEach es X.env).length = n := by rfl) (hst : (assignEach es X.env).findIdx? (·.1) = none := by rfl) :
    Peg X ea (.Tuple es k pos) (tgT n u) l := let ⟨_, p, r⟩ := h.ex; ⟨_, pg_tup hc p hn hst, ref_tgT r⟩
theorem pei_seq {tg : Expr} (h : Pee X ea Wx e m) : Pei X ea Wx tg e (mIter m) := let ⟨_, p, r⟩ := h.ex; ⟨_, PI.or (pi_list p) (pi_tup p), ref_iter r⟩
theorem pei_rng1 {tg : Expr} {p : Pos} {ms : Mo (List RV)} (hm : X.mg "range" = none) (ha : Pea X ea Wx [a] ms) (hg : Gl X "range" := by rfl) (hs : starEach [a] X.env = [(false, eval a X.env)] := by rfl) : Pei X ea Wx tg (.Call (.Name "range" p) [a] [] pos) (mRng1 ms) :=
  let ⟨_, p, r⟩ := ha.ex; ⟨_, pi_range1 hg hm p hs, ref_rng1 r⟩
theorem pei_rng2 {tg : Expr} {p : Pos} {ms : Mo (List RV)} (hm : X.mg "range" = none) (ha : Pea X ea Wx [a, b] ms) (hg : Gl X "range" := by rfl) (hs : starEach [a, b] X.env = [(false, eval a X.env), (false, eval b X.env)] := by rfl) (hs2 : starEach [b] X.env = [(false, eval b X.env)] := by rfl) :
    Pei X ea Wx tg (.Call (.Name "range" p) [a, b] [] pos) (mRng2 ms) := let ⟨_, p, r⟩ := ha.ex; ⟨_, pi_range2 hg hm p hs hs2, ref_rng2 r⟩
theorem pess_nil : Pess X ea Wx [] mNext := ⟨_, pss_nil, ref_next⟩
theorem pess_cons (h : Pes X ea Wx st f) (h' : Pess X ea Wx rest g) : Pess X ea Wx (st :: rest) (mSeq f g) := let ⟨_, p, r⟩ := h.ex; let ⟨_, p', r'⟩ := h'.ex; ⟨_, pss_cons p p', ref_seq r r'⟩
theorem pess_one (h : Pes X ea Wx st f) : Pess X ea Wx [st] f := let ⟨_, p, r⟩ := h.ex; ⟨_, pss_one p, r⟩
theorem pes_expr (h : Pee X ea Wx e m) (hs : swapsWith e none pos.line X.env = pure false := by rfl) : Pes X ea Wx (.Expr e pos) (mDrop m) := let ⟨_, p, r⟩ := h.ex; ⟨_, ps_expr p hs, ref_drop r⟩
theorem pes_ret (h : Pee X ea Wx e m) : Pes X ea Wx (.Return (some e) pos) (mRet m) := let ⟨_, p, r⟩ := h.ex; ⟨_, ps_ret p, ref_ret r⟩
theorem pes_if (hc : Pet X ea Wx c mt) (h : Pess X ea Wx sts f) (h' : Pess X ea Wx rest g) : Pes X ea Wx (.If c sts rest pos) (mIf mt f g) := let ⟨_, p, r⟩ := hc.ex; let ⟨_, p1, r1⟩ := h.ex; let ⟨_, p2, r2⟩ := h'.ex; ⟨_, ps_if p p1 p2, ref_if r r1 r2⟩
theorem pes_set (i : Nat) {x : Str} {pos' : Pos} (hN : X.N.Nodup) (he : Pee X ea Wx e m) (hi : X.N[i]? = some x := by rfl) (hx : Loc X.env.scope x := by first | exact Or.inl rfl | exact Or.inr rfl) (hs : swapsWith e (some (.Name x pos')) pos.line X.env = pure false := by rfl) (hf : X.fn x = true ∨ X.env.scope.names.lookup x = some .local := by first | exact .inl rfl | exact .inr rfl) :
    Pes X ea Wx (.Assign [.Name x pos'] e pos) (mAsg i m) := let ⟨_, p, r⟩ := he.ex; ⟨_, ps_set hN hi hx p hs hf, ref_asg i r⟩
theorem pes_asg {tg : Expr} {t : W → Mo Unit} {l : List Nat} (he : Pee X ea Wx e m) (hg : Peg X ea tg t l) (hs : swapsWithSole [tg] e pos.line X.env = pure false := by rfl) (hw : swappedStores [tg] e X.env = pure none := by rfl)
    (h1 : (assignEach [tg] X.env).map (·.2) = [assign tg X.env] := by rfl) : Pes X ea Wx (.Assign [tg] e pos) (mAsgT t m) := let ⟨_, p, r⟩ := he.ex; let ⟨_, p', r'⟩ := hg.ex; ⟨_, ps_asg p p' hs hw h1, ref_asgT r r'⟩
theorem pes_for {tg iter : Expr} {mi : Mo Wk} {t : W → Mo Unit} {l : List Nat} (hp : PassesOwn (model X.prog X.w) X.A X.env X.xe) (hi : Pei X ea Wx tg iter mi) (hg : Peg X ea tg t l) (hb : Pess X ea Wx sts f) (hc : X.calm = true := by rfl) (hs : ∀ x, foldedSetIterable iter X.env x = pure x := by intro _; rfl) :
    Pes X ea Wx (.For tg iter sts [] pos) (mFor mi t f) := let ⟨_, p, r⟩ := hi.ex; let ⟨_, p1, r1⟩ := hg.ex; let ⟨_, p2, r2⟩ := hb.ex; ⟨_, ps_for hp hc p p1 p2 hs, ref_for r r1 r2⟩
section
variable {elt tg iter : Expr} {ifs : List Expr} {scope : Scope} {own : List (Str × Nat)} {mi : Mo Wk} {t : W → Mo Unit} {l : List Nat} {me : Mo RV}
structure Pets (X : Cx) (ea : EA) (Wx : WX) (ifs : List Expr) (m : Mo Bool) : Prop where
  ex : ∃ t, PTs X ifs t ∧ RefT X.K X.mg ea Wx t m
theorem Pets.can {m : Mo Bool} (h : Pets X ea Wx ifs m) : PTs X ifs (ttOf X.K X.mg ea Wx m) := by
  obtain ⟨t, p, r⟩ := h.ex
  exact ⟨fun pins s σ H Q I ⟨io, Fr, s1, r0, s', S0, e, h1, h2⟩ => p.run pins s σ H Q I (r σ H io Fr s1 S0 r0 s' e Q h1 h2)⟩
def mYes : Mo Bool := ret true
theorem pets_nil : Pets X ea Wx [] mYes := ⟨_, pts_nil, fun σ H io Fr s S0 r0 s' e Q hok _ => by cases e; exact hok _ rfl _ _ ⟨S0, .refl⟩⟩
theorem pets_one (h : Pet X ea Wx c mt) : Pets X ea Wx [c] mt := let ⟨_, p, r⟩ := h.ex; ⟨_, pts_one p, r⟩
theorem tgN_ne (i : Nat) : ∀ w s r s', tgN i w s = some (r, s') → r = .ok () := fun w s r s' e => by cases e; rfl
structure Blk (X : Cx) (ea : EA) (tg elt : Expr) (ifs : List Expr) (scope : Scope) (own : List (Str × Nat)) (t : W → Mo Unit) (l : List Nat) (mt : Mo Bool) (me : Mo RV) : Prop where
  ok : BlkOk X.N X.env.scope scope own
  ne : ∀ w s r s', t w s = some (r, s') → r = .ok ()
  sub : ∀ i ∈ l, i ∈ own.map (·.2)
  tg : ∀ (s : Shared) (H : Hp) (C : Addr) (cl : List (Str × Addr)) (fp : List Addr), Peg (X.blk s H scope (compEnvC scope cl C X.env) fp) ea tg t l
  ts : ∀ (s : Shared) (H : Hp) (C : Addr) (cl : List (Str × Addr)) (fp : List Addr), Pets (X.blk s H scope (compEnvC scope cl C X.env) fp) ea W0 ifs mt
  el : ∀ (s : Shared) (H : Hp) (C : Addr) (cl : List (Str × Addr)) (fp : List Addr), Pee (X.blk s H scope (compEnvC scope cl C X.env) fp) ea W0 elt me
theorem pee_lc (hN : X.N.Nodup) (hi : Pei X ea Wx tg iter mi) (b : Blk X ea tg elt ifs scope own t l mt me) (hc : X.calm = true := by rfl) (hs : ∀ x, foldedSetIterable iter X.env x = pure x := by intro _; rfl) :
    Pee X ea Wx (.ListComp elt [⟨tg, iter, ifs, 0⟩] scope pos) (mLc (own.map (·.2)) mi t mt me) := by
  obtain ⟨wi, p, r⟩ := hi.ex
  exact ⟨_, pe_lc hc hN p b.ok (fun s H C cl fp => (b.tg s H C cl fp).can) (fun s H C cl fp => (b.ts s H C cl fp).can) (fun s H C cl fp => (b.el s H C cl fp).can) hs,
    ref_lc r (ref_gOf b.ne) b.sub (ref_ttOf _) (ref_tOf _)⟩
theorem pes_setLc (i : Nat) {y : Str} {py spos : Pos} (hN : X.N.Nodup) (hi : Pei X ea Wx tg iter mi) (b : Blk X ea tg elt ifs scope own t l mt me) (hy : X.N[i]? = some y := by rfl) (hyl : X.env.scope.names.lookup y = some .local := by rfl)
    (hsw : swapsWith (.ListComp elt [⟨tg, iter, ifs, 0⟩] scope pos) (some (.Name y py)) spos.line X.env = pure true := by exact sw_true rfl rfl rfl (by decide +kernel)) (hc : X.calm = true := by rfl) (hs : ∀ x, foldedSetIterable iter X.env x = pure x := by intro _; rfl) :
    Pes X ea Wx (.Assign [.Name y py] (.ListComp elt [⟨tg, iter, ifs, 0⟩] scope pos) spos) (mAsg i (mLc (own.map (·.2)) mi t mt me)) := by
  obtain ⟨wi, p, r⟩ := hi.ex
  exact ⟨_, ps_setLc hc hN hy hyl hsw p b.ok (fun s H C cl fp => (b.tg s H C cl fp).can) (fun s H C cl fp => (b.ts s H C cl fp).can) (fun s H C cl fp => (b.el s H C cl fp).can) hs,
    ref_asg i (ref_lc r (ref_gOf b.ne) b.sub (ref_ttOf _) (ref_tOf _))⟩
end
end
abbrev Fn := List W → List Cell → Option (Except Ex FV × List Cell)
section
variable {K : PySem.W.Frag} {mg : Str → Option Value} {ea : EA} {io io' : List Addr} {Fr Fr' : Addr → Prop} {s s' s2 : S} {σ σ' : L2.St} {H H' : Hp} {w : W} {v : V} {c : Cell} {o : HO} {a p : Addr} {ws : List W} {vs : List V} {M : Addr → Prop}
def PostXF (K : PySem.W.Frag) (mg : Str → Option Value) (io : List Addr) (M Fr : Addr → Prop) (H : Hp) (G' : List Cell) (io' : List Addr) (H' : Hp) (x : Ex) (cls : Value) (d : Option Addr) : Prop :=
  GSim K mg io' Fr G' H' ∧ Stp io M Fr H io' (Mu io' Fr) H' ∧ ExR K mg io' (Mu io' Fr) H' x cls d
def spM (K : PySem.W.Frag) (mg : Str → Option Value) (n : Nat) (m : Fn) : Sp := fun vs H Q E => vs.length = n ∧ ∃ io Fr G ws r G', GSim K mg io Fr G H ∧ Rws K mg io (Mu io Fr) H ws vs ∧ m ws G = some (r, G') ∧
  (∀ f, r = .ok f → ∀ v H' io', PostF K mg io (Mu io Fr) Fr H G' io' H' f v → Q v H') ∧ (∀ x, r = .error x → ∀ cls d H' io', PostXF K mg io (Mu io Fr) Fr H G' io' H' x cls d → E cls d H')
structure FnM (P : Program) (w : World) (K : PySem.W.Frag) (mg : Str → Option Value) (base : Heap) (k : Nat) (f : Addr) (fd : FuncData) (ps : List Str) (m : Fn) : Prop where
  ok : FnOk P w K mg base (L2N.CX P w) k f fd ps (spM K mg ps.length m)
def fnM (n : Nat) (body : Mo Fl) : Fn := fun ws G => match body ⟨ws.map SV.val ++ List.replicate (n - ws.length) SV.non, G⟩ with
  | some (.ok (.rt f), s) => some (.ok f, s.G)
  | some (.ok .nx, s) => some (.ok (.val .non), s.G)
  | some (.error x, s) => some (.error x, s.G)
  | _ => none
theorem sim_start {n : Nat} {N : List Str} (hn : N.length = n) (hl : vs.length ≤ n) (g : GSim K mg io Fr s.G H) (r : Rws K mg io (Mu io Fr) H ws vs) : Sim K mg ea io Fr ⟨ws.map SV.val ++ List.replicate (n - ws.length) SV.non, s.G⟩ (L2.start N vs) H ∧
    (∀ b, Ms io Fr ⟨ws.map SV.val ++ List.replicate (n - ws.length) SV.non, s.G⟩ (L2.start N vs) b ↔ Mu io Fr b) := by
  have no : ∀ (i : Nat) (c : Cell), (ws.map SV.val ++ List.replicate (n - ws.length) SV.non)[i]? ≠ some (SV.own c) := fun i c h => by
    rcases Nat.lt_or_ge i (ws.map SV.val).length with q | q
    · rw [List.getElem?_append_left q, List.getElem?_map] at h
      cases e : ws[i]? <;> rw [e] at h <;> cases h
    · rw [List.getElem?_append_right q] at h
      have h2 := List.mem_of_getElem? h
      have h3 := List.eq_of_mem_replicate h2
      cases h3
  have fo : ∀ b, FrO Fr (ws.map SV.val ++ List.replicate (n - ws.length) SV.non) (L2.start N vs) b ↔ Fr b := fun b => ⟨fun z => z.elim id fun ⟨i, c, h, _⟩ => (no i c h).elim, .inl⟩
  have mo : ∀ b, Ms io Fr ⟨ws.map SV.val ++ List.replicate (n - ws.length) SV.non, s.G⟩ (L2.start N vs) b ↔ Mu io Fr b := fun b => ⟨fun z => z.imp id (fo b).1, fun z => z.imp id .inl⟩
  refine ⟨⟨?_, g.less (s := s) fun b z => (fo b).1 z, fun i u e => ?_, fun i c e => (no i c e).elim, fun i j c d a e => (no i c e).elim, fun i y e => ?_⟩, mo⟩
  · simp only [L2.start, List.length_append, List.length_map, List.length_replicate, hn]
    have := r.1
    omega
  · have hi : i < (ws.map SV.val).length := by
      rcases Nat.lt_or_ge i (ws.map SV.val).length with q | q
      · exact q
      · simp only at e
        rw [List.getElem?_append_right q] at e
        have h3 := List.eq_of_mem_replicate (List.mem_of_getElem? e)
        cases h3
    simp only at e
    rw [List.getElem?_append_left hi, List.getElem?_map] at e
    cases q : ws[i]? with
    | none => rw [q] at e; cases e
    | some u' =>
      rw [q] at e
      cases e
      obtain ⟨v, h1, h2⟩ := r.get q
      have hv := get_lt h1
      refine ⟨v, ?_, h2.pers (.less fun b z => (mo b).1 z)⟩
      unfold L2.start
      rw [List.getElem?_append_left (by simpa using hv), List.getElem?_map, h1]
      rfl
  · exfalso
    simp only at e
    rcases Nat.lt_or_ge i (ws.map SV.val).length with q | q
    · rw [List.getElem?_append_left q, List.getElem?_map] at e
      cases k : ws[i]? <;> rw [k] at e <;> cases e
    · rw [List.getElem?_append_right q] at e
      have h3 := List.eq_of_mem_replicate (List.mem_of_getElem? e)
      cases h3
theorem defM {P : Program} {w : World} {base : Heap} {x qual : Str} {st : Stmt} {f : Addr} {fd : FuncData} {N ps : List Str} {k n : Nat} {body : Mo Fl} (F : Fun K x qual st f fd) (S : FnScope N ps (defScope st)) (hn : N.length = n)
    (hb : ∀ (cdv : Value) (A : Around) (outer : List Env) (s : Shared) (H : Hp) (E : XK), Room k (A.deeper (envOfC qual (defScope st) s.heap.objs.size f cdv)) →
      Pess (cxOf (L2N.CX P w) P w K mg base N qual (defScope st) f cdv A outer s H E) ea0 (fun cls d _ H => E cls d H) (defBody st) body) : FnM P w K mg base (k + 1) f fd ps (fnM n body) := by
  refine ⟨okN F S (fun vs H Q E h => h.1) fun cdv A outer s H vs Q E hr h => ?_⟩
  obtain ⟨hl, io, Fr, G, ws, r, G', g, R, e, hok, hex⟩ := h
  obtain ⟨t, p, rf⟩ := (hb cdv A outer s H E hr).ex
  refine ⟨t, p, ?_⟩
  have hps : ps.length ≤ n := by
    have := congrArg List.length S.pre
    rw [List.length_take] at this
    omega
  obtain ⟨S0, mo⟩ := sim_start (ea := ea0) (s := ⟨[], G⟩) hn (by omega) g R
  unfold fnM at e
  have T0 : ∀ {M' : Addr → Prop} {io' : List Addr} {H' : Hp}, Stp io (Ms io Fr ⟨ws.map SV.val ++ List.replicate (n - ws.length) SV.non, G⟩ (L2.start N vs)) Fr H io' M' H' → Stp io (Mu io Fr) Fr H io' M' H' := fun T =>
    (Stp.refl.less fun b z => (mo b).1 z : Stp io (Mu io Fr) Fr H io (Ms io Fr ⟨ws.map SV.val ++ List.replicate (n - ws.length) SV.non, G⟩ (L2.start N vs)) H).trans T
  cases k : body ⟨ws.map SV.val ++ List.replicate (n - ws.length) SV.non, G⟩ with
  | none => rw [k] at e; cases e
  | some pr =>
    obtain ⟨rb, sb⟩ := pr
    rw [k] at e
    refine rf _ _ _ _ _ S0 _ _ k _ (fun q σ' H' io' px => ?_) (fun q σ' H' io' px => ?_) (fun q σ' H' io' px => ?_) (fun f q v H' io' px => ?_) fun xx q cls d σ' H' io' px => ?_
    · subst q
      cases e
      exact hok _ rfl _ _ _ ⟨px.1.g.less (s := sb) fun b z => .inl z, (T0 px.2).less fun b z => z.imp id .inl, .non⟩
    · subst q; cases e
    · subst q; cases e
    · subst q
      cases e
      cases f with
      | val w => exact hok _ rfl v H' io' ⟨px.1, T0 px.2.1, px.2.2⟩
      | own c =>
        obtain ⟨a, o, h1, h2, h3, h4, h5, h6⟩ := px
        exact hok _ rfl v H' io' ⟨a, o, h1, h2, h3, h4, T0 h5, h6⟩
    · subst q
      cases e
      obtain ⟨x1, x2, C, x3, x4, x5⟩ := px
      have le : ∀ b, Mu io' Fr b → Ms io' Fr sb σ' b := fun b z => z.imp id .inl
      refine hex _ rfl cls d H' io' ⟨x1.g.less (s := sb) fun b z => .inl z, (T0 x2).less le, C, x3, x4, x5.imp id ?_⟩
      rintro ⟨dd, us, y1, y2, y3, y4⟩
      exact ⟨dd, us, y1, y2, fun z => y3 (le _ z), y4.pers (.less le)⟩
def rvOf : FV → RV
  | .val w => .val w
  | .own c => .own c
def callG (m : Fn) (ws : List W) : Mo RV := fun s => match m ws s.G with
  | some (.ok f, G') => some (.ok (rvOf f), { s with G := G' })
  | some (.error x, G') => some (.error x, { s with G := G' })
  | none => none
theorem fro_pls {r : List SV} : ∀ b, FrO (pls Fr a) r σ b ↔ pls (FrO Fr r σ) a b := fun b => by
  constructor
  · rintro ((z | z) | z)
    · exact .inl (.inl z)
    · exact .inr z
    · exact .inl (.inr z)
  · rintro ((z | z) | z)
    · exact .inl (.inl z)
    · exact .inr z
    · exact .inl (.inr z)
theorem spM_use {Wx : WX} {n : Nat} {m : Fn} (S0 : Sim K mg ea io Fr s σ H) (R : Rws K mg io (Ms io Fr s σ) H ws vs) (hn : vs.length = n) {r : Except Ex RV} (e : callG m ws s = some (r, s')) {Q : VK}
    (hok : ∀ x, r = .ok x → ∀ v H' io', PostE K mg ea io Fr s σ H s' io' H' x v → Q v H') (hex : ∀ x, r = .error x → ∀ cls d H' io', PostX K mg ea io Fr s σ H s' σ io' H' x cls d → Wx cls d σ H') : spM K mg n m vs H Q (WE Wx σ) := by
  unfold callG at e
  have nown : ∀ a (i : Nat) c, s.r[i]? = some (.own c) → σ[i]? = some (some (V.ref a)) → ¬ Fr a := fun a i c h1 h2 => by
    obtain ⟨b, o, q1, _, _, q4⟩ := S0.own i c h1
    rw [h2] at q1; cases q1
    exact q4
  split at e
  · rename_i f G' k
    cases e
    refine ⟨hn, io, FrO Fr s.r σ, s.G, ws, _, G', S0.g, R, k, fun f' q v H' io' p => ?_, (fun _ q => by cases q)⟩
    cases q
    cases f with
    | val w =>
      obtain ⟨g, T, r⟩ := p
      exact hok _ rfl v H' io' ⟨S0.call g T nown, T.frless fun b z => .inl z, r⟩
    | own c =>
      obtain ⟨a, o, rfl, ha, nf, g, T, r⟩ := p
      have g' : GSim K mg io' (FrO (pls Fr a) s.r σ) G' H' := g.less (s := { s with G := G' }) fun b z => (fro_pls b).1 z
      have le : ∀ b, Mu io' (FrO (pls Fr a) s.r σ) b → Mu io' (pls (FrO Fr s.r σ) a) b := fun b z => z.imp id (fro_pls b).1
      refine hok _ rfl _ H' io' ⟨a, o, rfl, ha, nf, S0.call g' (T.less le) fun b i c h1 h2 z => ?_, (T.less le).frless fun b z => .inl z, r.pers (.less le)⟩
      rcases z with z | z
      · exact nown b i c h1 h2 z
      · subst z
        exact nf (.inr ⟨i, c, h1, h2⟩)
  · rename_i x G' k
    cases e
    refine ⟨hn, io, FrO Fr s.r σ, s.G, ws, _, G', S0.g, R, k, (fun _ q => by cases q), fun x' q cls d H' io' p => ?_⟩
    cases q
    exact hex _ rfl cls d H' io' ⟨S0.call p.1 p.2.1 nown, p.2.1.frless fun b z => .inl z, p.2.2⟩
  · cases e
def mCall (n : Nat) (m : Fn) (ms : Mo (List RV)) : Mo RV := bnd ms fun xs => bnd (freezeAll xs) fun ws => if ws.length = n then callG m ws else stk
theorem ref_call {Wx : WX} {n : Nat} {m : Fn} {ta : TA} {ms : Mo (List RV)} (ha : RefA K mg ea Wx ta ms) : RefE K mg ea Wx (tCallS (spM K mg n m) (WE Wx) ta) (mCall n m ms) := by
  intro σ H io Fr s S0 r0 s' e Q hok hex
  refine arg2 ha S0 e hex fun xs vs s1 H1 io1 e2 px R1 => ?_
  rcases bnd_some e2 with ⟨x, e3, rfl⟩ | ⟨ws, s2, e3, e4⟩
  · obtain ⟨_, _, _, _, q, _⟩ := freezeAll_ok px.1 R1 e3
    cases q
  · obtain ⟨_, m2, S2, ws', q, r2⟩ := freezeAll_ok px.1 R1 e3
    cases q
    split at e4
    · rename_i hn
      have T2 := px.2.less m2
      exact spM_use S2 r2 (by rw [← r2.1]; exact hn) e4 (fun x q v H' io' p => hok x q v H' io' (p.trans T2)) fun x q cls d H' io' p => hex x q cls d H' io' ⟨p.1, T2.trans p.2.1, p.2.2⟩
    · cases e4
end
section
variable {X : Cx} {ea : EA} {Wx : WX} {e : Expr} {es : List Expr} {ms : Mo (List RV)} {m : Fn} {k : Nat} {f : Addr} {fd : FuncData} {ps : List Str} {x : Str} {p pos : Pos}
theorem pee_call (F : FnM X.prog X.w X.K X.mg X.base k f fd ps m) (hr : Room k X.A) (hm : X.mg x = some (.ref f)) (hk : PySem.W.keepIn X.K (.ref f) = true) (hb : Binds X.K fd ps []) (tk : Takes X Wx) (ha : Pea X ea Wx (e :: es) ms)
    (hg : Gl X x := by rfl) (hdb : (x == ("__debug__" : Str)) = false := by decide) (he : starEach (e :: es) X.env = (false, eval e X.env) :: starEach es X.env := by rfl) (hpl : (backTo pos (starEach es X.env)).any (·.1) = false := by rfl) :
    Pee X ea Wx (.Call (.Name x p) (e :: es) [] pos) (mCall ps.length m ms) := by
  obtain ⟨t, q, r⟩ := ha.ex
  exact ⟨_, pe_callS F.ok hr hg hm hk hb (fun σ => passAt tk σ) q hdb he hpl, ref_call r⟩
end
end Z
set_option Elab.async false
set_option linter.all false
set_option maxRecDepth 100000
namespace Z
open PySem PySem.Spec PyProof.Rows
open L2 hiding XE Takes CX takes_of passes_call passAt MkP PMk ps_raise mk_of ps_try_as ps_try_many pmk_own Takes.imp
open L2N
section
variable {X : Cx} {CX : CXT} {k : Nat} {f C : Addr} {fd : FuncData} {ps : List Str} {sp : Sp} {dvs : List V} {ds : List Value} {E : L2.St → XK} {x m : Str} {p pos apos : Pos} {e o : Expr} {es : List Expr} {ta : TE} {t : TA}
theorem args_go {g : Addr} {first : List Value} (kp : PySem.W.keepIn X.K (.ref g) = true) (ha : PA X (e :: es) t) (hst : starEach (e :: es) X.env = (false, eval e X.env) :: starEach es X.env) (hpl : (backTo pos (starEach es X.env)).any (·.1) = false)
    {pins : List (Addr × Obj)} {s : Shared} {σ : L2.St} {H : Hp} {Q : Value → Shared → Prop} {T : List V → Hp → Prop} (I : Inv X pins σ H s) (h : t σ H T)
    (go : ∀ us vs s1 H1, Inv X pins σ H1 s1 → Vals vs us → T vs H1 → wpAny (model X.prog X.w) X.A (call (.ref g) (first ++ us)) Q X.xe s1) :
    wpAny (model X.prog X.w) X.A (callWith pos (.ref g) first (backTo pos (starEach (e :: es) X.env)) []) Q X.xe s := by
  apply PySem.W.callWith_K I.ok.mod.kin kp _ hst hpl
  apply thn (ha.run pos pins s σ H _ I h)
  rintro us s1 ⟨vs, H1, J, r, q⟩
  exact ⟨J.kIn, go us vs s1 H1 J r q⟩
theorem run_makeS {pins : List (Addr × Obj)} {σ : L2.St} {H : Hp} {s : Shared} {Q : VK} {us : List Value} {vs : List V} (M : Mk X.K C f) (F : FnOk X.prog X.w X.K X.mg X.base CX k f fd ps sp) (hr : Room (k + 1) X.A) (hb : Binds X.K fd ps ds) (hd : Vals dvs ds)
    (hx : PassesAt CX X σ (E σ)) (I : Inv X pins σ H s) (r : Vals vs us)
    (h : ∀ x dx, H x = none → H dx = none → dx ≠ x → sp (.ref x :: (vs ++ dvs)) (upd (upd H dx (.own x)) x (.ins C dx [])) (fun v H2 => v = .non ∧ Q (.ref x) H2) (E σ)) : wpAny (model X.prog X.w) X.A (call (.ref C) us) (EP X pins σ Q) X.xe s := by
  generalize hn : s.heap.objs.size = n
  have new : ∀ j, n ≤ j → H j = none := fun j le => I.hok.fresh (by rw [hn]; exact le)
  have q := h (n + 1) n (new _ (Nat.le_succ n)) (new _ (Nat.le_refl n)) (Nat.ne_of_lt (Nat.lt_succ_self n))
  have J := Inv.made (C := C) I
  have all : Vals (V.ref (n + 1) :: (vs ++ dvs)) (Value.ref (n + 1) :: (us ++ ds)) := .cons rfl (r.append hd)
  have many : (Value.ref (n + 1) :: us ++ ds).length = ps.length := by simpa using all.length.symm.trans (F.len _ _ _ _ q)
  rw [hn] at J
  have body := F.run _ X.stack _ _ ⟨Value.ref (n + 1) :: us, []⟩ (Value.ref (n + 1) :: (us ++ ds)) _ _ (E σ) (hr.make C us []) (J.env0.make C us []) (hb _ (Value.ref (n + 1) :: us) J.kIn many) all q
  subst hn
  refine wpAny_call (make_map (f := f) I.kIn M.makes M.init (beq_iff_eq.mp M.fn) (codeAny_mono body ?_))
  rintro (er | (_ | _ | _ | u)) s' z
  · exact hx pins _ _ er s' J z
  · exact z.elim
  · exact z.elim
  · exact z.elim
  · obtain ⟨_, H', J', rv, rfl, q'⟩ := J.after z
    exact ⟨rv, V.ref _, H', J', rfl, q'⟩
def tMakeS (C : Addr) (sp : Sp) (dvs : List V) (E : L2.St → XK) (t : TA) : TE := fun σ H Q => t σ H fun vs H1 => ∀ x dx, H1 x = none → H1 dx = none → dx ≠ x → sp (.ref x :: (vs ++ dvs)) (upd (upd H1 dx (.own x)) x (.ins C dx [])) (fun v H2 => v = .non ∧ Q (.ref x) H2) (E σ)
theorem pe_makeS (M : Mk X.K C f) (F : FnOk X.prog X.w X.K X.mg X.base CX k f fd ps sp) (hr : Room (k + 1) X.A) (hg : Gl X x) (hm : X.mg x = some (.ref C)) (hb : Binds X.K fd ps ds) (hd : Vals dvs ds) (hx : ∀ σ, PassesAt CX X σ (E σ))
    (ha : PA X (e :: es) t) (hdb : (x == ("__debug__" : Str)) = false := by decide) (hst : starEach (e :: es) X.env = (false, eval e X.env) :: starEach es X.env := by rfl) (hpl : (backTo pos (starEach es X.env)).any (·.1) = false := by rfl) :
    PE X (.Call (.Name x p) (e :: es) [] pos) (tMakeS C sp dvs E t) :=
  ⟨fun _ _ σ _ _ I h => wpAny_Call_Name_kw (ld_glob I hg hm (args_go M.kp ha hst hpl I h fun _ _ _ _ J r q => run_makeS M F hr hb hd (hx σ) J r q) hdb)⟩
theorem pe_makeS0 (M : Mk X.K C f) (F : FnOk X.prog X.w X.K X.mg X.base CX k f fd ps sp) (hr : Room (k + 1) X.A) (hg : Gl X x) (hm : X.mg x = some (.ref C)) (hb : Binds X.K fd ps ds) (hd : Vals dvs ds) (hx : ∀ σ, PassesAt CX X σ (E σ))
    (hdb : (x == ("__debug__" : Str)) = false := by decide) : PE X (.Call (.Name x p) [] [] pos) (tMakeS C sp dvs E tNil) :=
  ⟨fun _ _ σ _ _ I h => wpAny_Call_Name_kw (ld_glob I hg hm (PySem.W.callWith_K0 I.kIn M.kp (run_makeS (us := []) M F hr hb hd (hx σ) I .nil h)) hdb)⟩
end
section
variable {K : PySem.W.Frag} {mg : Str → Option Value} {ea : EA} {io io' : List Addr} {Fr Fr' : Addr → Prop} {s s' s2 : S} {σ σ' : L2.St} {H H' : Hp} {w : W} {v : V} {c : Cell} {o : HO} {a p C : Addr} {ws : List W} {vs : List V} {M M' : Addr → Prop} {Wx : WX}
def ClsN (K : PySem.W.Frag) (mg : Str → Option Value) (nms : List Str) (f : Str) : Prop := ∀ nm ∈ nms, ∃ C, mg nm = some (.ref C) ∧ Cls K C ∧ NoAttr K C f
def fFld (nms : List Str) (f : Str) : W → Option OR
  | .obj nm fs => if nm ∈ nms then (fs.lookup f).map .imm else none
  | _ => none
def tFldU (K : PySem.W.Frag) (f : Str) : V → Hp → VK → Prop := fun x H Q => ∃ a C dx fs v, x = .ref a ∧ H a = some (.ins C dx fs) ∧ Cls K C ∧ NoAttr K C f ∧ fs.lookup f = some v ∧ Q v H
theorem fld_hr {nms : List Str} {f : Str} (hF : ClsN K mg nms f) : ∀ io M H x vx z Q, Rn K mg io M H x vx → fFld nms f x = some z → OQ K mg io M H z Q → tFldU K f vx H Q := by
  intro io M H x vx z Q rx e q
  unfold fFld at e
  split at e
  · split at e
    · rename_i hin
      obtain ⟨w, e1, rfl⟩ := Option.map_eq_some_iff.mp e
      obtain ⟨a, C, dx, vs, rfl, hm, ha, r⟩ := rx.obj
      obtain ⟨C', hm', hc, hn⟩ := hF _ hin
      rw [hm] at hm'
      cases hm'
      obtain ⟨v, h1, h2⟩ := Rkv.lookup (vs := vs) r e1
      exact ⟨a, C, dx, vs, v, rfl, ha, hc, hn, h1, q v h2⟩
    · cases e
  · cases e
theorem nodup_ixA {N : List Addr} (hN : N.Nodup) {i j : Nat} {x : Addr} (a : N[i]? = some x) (b : N[j]? = some x) : i = j := by
  induction N generalizing i j with
  | nil => simp at a
  | cons y N ih =>
    obtain ⟨h1, h2⟩ := List.nodup_cons.mp hN
    cases i with
    | zero =>
      cases j with
      | zero => rfl
      | succ j =>
        simp at a b
        subst a
        exact absurd (List.mem_of_getElem? b) h1
    | succ i =>
      cases j with
      | zero =>
        simp at a b
        subst b
        exact absurd (List.mem_of_getElem? a) h1
      | succ j =>
        simp at a b
        rw [ih h2 a b]
theorem Sim.setCell {n : Nat} {o' : HO} {c' : Cell} (x : Sim K mg ea io Fr s σ H) (hn : io[n]? = some a) (h : ∀ {H' : Hp}, Pers io (Ms io Fr s σ) H io (Ms io Fr s σ) H' → Rc K mg io (Ms io Fr s σ) H' c' o') :
    Sim K mg ea io Fr { s with G := s.G.set n c' } σ (upd H a o') ∧ Stp io (Ms io Fr s σ) Fr H io (Ms io Fr s σ) (upd H a o') := by
  have ain : a ∈ io := List.mem_of_getElem? hn
  have aM : Ms io Fr s σ a := .inl ain
  have nF : ¬ FrO Fr s.r σ a := x.g.dj a ain
  have q : Pers io (Ms io Fr s σ) H io (Ms io Fr s σ) (upd H a o') := ⟨fun b u e hb => by rw [upd_ne (fun z => by subst z; exact hb aM)]; exact e, fun b z => .inl z, fun _ _ e => e⟩
  refine ⟨⟨x.len, ⟨by simp [x.g.len], fun m b c h1 h2 => ?_, x.g.nd, x.g.dj, fun b z => ?_⟩, fun i w e => ?_, fun i c e => ?_, x.dist, fun i e k => let ⟨h1, h2⟩ := x.exc i e k; ⟨h1, h2.pers q⟩⟩, q, fun b z => ?_, fun b u e => ?_⟩
  · by_cases hm : n = m
    · subst hm
      rw [hn] at h1
      cases h1
      have hl := get_lt h2
      simp only [List.length_set] at hl
      rw [List.getElem?_set_self hl] at h2
      cases h2
      exact ⟨o', upd_same, h q⟩
    · rw [List.getElem?_set_ne hm] at h2
      obtain ⟨u, e, r⟩ := x.g.cell m b c h1 h2
      have nb : b ≠ a := fun z => by
        subst z
        exact hm (nodup_ixA x.g.nd hn h1)
      exact ⟨u, by rw [upd_ne nb]; exact e, r.pers q⟩
  · obtain ⟨u, e, n⟩ := x.g.fr b z
    exact ⟨u, by rw [upd_ne (fun e => by subst e; exact nF z)]; exact e, n⟩
  · obtain ⟨v, h1, h2⟩ := x.val i w e
    exact ⟨v, h1, h2.pers q⟩
  · obtain ⟨b, u, h1, h2, h3, h4⟩ := x.own i c e
    exact ⟨b, u, h1, by rw [upd_ne (fun z => by subst z; exact nF (.inr ⟨i, c, e, h1⟩))]; exact h2, h3.pers q, h4⟩
  · rw [upd_ne (fun e => by subst e; exact nF (.inl z))]
  · by_cases e' : b = a
    · exact ⟨o', by rw [e', upd_same]⟩
    · exact ⟨u, by rw [upd_ne e']; exact e⟩
def putFW (f : Str) (w : W) : List (Str × W) → List (Str × W)
  | [] => [(f, w)]
  | (g, x) :: r => if g = f then (g, w) :: r else (g, x) :: putFW f w r
theorem Rkv.putF {f : Str} (h : Rw K mg io M H w v) : ∀ {ws : List (Str × W)} {vs : List (Str × V)}, Rkv K mg io M H ws vs → Rkv K mg io M H (putFW f w ws) (L2.putF f v vs)
  | [], vs, r => by rw [r.nil_inv]; exact Rkv.cons h Rkv.nil
  | (g, x) :: ws, vs, r => by
    obtain ⟨u, t, rfl, h1, h2⟩ := r.cons_inv
    rw [show putFW f w ((g, x) :: ws) = (if g = f then (g, w) :: ws else (g, x) :: putFW f w ws) from rfl, show L2.putF f v ((g, u) :: t) = (if g = f then (g, v) :: t else (g, u) :: L2.putF f v t) from rfl]
    by_cases e : g = f
    · rw [if_pos e, if_pos e]; exact Rkv.cons h h2
    · rw [if_neg e, if_neg e]; exact Rkv.cons h1 (Rkv.putF h h2)
def putFld (nms : List Str) (f : Str) (w : W) : RV → Mo Fl
  | .val (.ref n) => fun s => match s.G[n]? with
    | some (.ins nm fs) => if nm ∈ nms ∧ fs.length < 1000 then some (.ok .nx, { s with G := s.G.set n (.ins nm (putFW f w fs)) }) else none
    | _ => none
  | _ => stk
def mSetF (nms : List Str) (f : Str) (mo mv : Mo RV) : Mo Fl := bnd mv fun y => bnd (freeze (settle y)) fun wy => bnd mo fun x => putFld nms f wy x
theorem ref_setF {nms : List Str} {f : Str} (hF : ClsN K mg nms f) {ta tv : TE} {mo mv : Mo RV} (ho : RefE K mg ea Wx ta mo) (hv : RefE K mg ea Wx tv mv) : RefS K mg ea Wx (sFld K ta tv f) (mSetF nms f mo mv) := by
  intro σ H io Fr s S0 r0 s' e D hnx hbk hct hrt hex
  refine one2 hv S0 e (fun x q cls d H' io' px => hex x q cls d σ H' io' px) fun y vy s1 H1 io1 e2 px => ?_
  obtain ⟨S1, T1, R1⟩ := px.settled
  rcases bnd_some e2 with ⟨z, e3, _⟩ | ⟨wy, s3, e3, e4⟩
  · obtain ⟨_, _, _, _, q, _⟩ := freeze_ok S1 R1 e3
    cases q
  · obtain ⟨_, l3, S3, w', q, R3⟩ := freeze_ok S1 R1 e3
    cases q
    have T3 := T1.less l3
    refine one2 ho S3 e4 (fun x q cls d H' io' px => hex x q cls d σ H' io' ⟨px.1, T3.trans px.2.1, px.2.2⟩) fun x vx s4 H4 io4 e5 p4 => ?_
    unfold putFld at e5
    split at e5
    · rename_i n
      obtain ⟨S4, T4, R4⟩ := p4
      split at e5
      · rename_i nm fs hG
        split at e5
        · rename_i hc
          cases R4 with
          | ref hn =>
            rename_i a
            obtain ⟨o, ha, C, dx, us, rfl, hm, rk⟩ := S4.g.cell n a _ hn hG
            obtain ⟨C', hm', hcl, hno⟩ := hF _ hc.1
            rw [hm] at hm'
            cases hm'
            have R5 := R3.pers T4.p
            obtain ⟨S5, T5⟩ := S4.setCell (c' := .ins nm (putFW f wy fs)) (o' := .ins C dx (L2.putF f vy us)) hn fun {H'} p => ⟨C, dx, _, rfl, hm, Rkv.putF (R5.pers p) (Rkv.pers p rk)⟩
            refine ⟨a, C, dx, us, rfl, ha, hcl, hno, by rw [← rk.length]; exact hc.2, ?_⟩
            cases e5
            exact hnx rfl _ _ io4 ⟨S5, (T3.trans T4).trans T5⟩
        · cases e5
      · cases e5
    · cases e5
def chk (nm mn : Str) (w : W) : Mo Unit := fun s => match derefW s w with
  | some (.obj nm' fs) => if nm' = nm ∧ fs.lookup mn = none then some (.ok (), s) else none
  | _ => none
def Dfl (K : PySem.W.Frag) (mg : Str → Option Value) (ds : List W) (dvs : List V) : Prop := ∀ io M H, Rws K mg io M H ds dvs
theorem Dfl.nil : Dfl K mg [] [] := fun _ _ _ => Rws.nil
end
section
variable {X : Cx} {ea : EA} {Wx : WX} {e o : Expr} {es : List Expr} {mo mv : Mo RV} {ms : Mo (List RV)} {m : Fn} {k : Nat} {f C : Addr} {fd : FuncData} {ps : List Str} {x nm fl mn : Str} {p pos apos tpos : Pos} {nms : List Str} {ds : List Value} {dw : List W} {dvs : List V}
theorem pee_fld (hF : ClsN X.K X.mg nms fl) (ho : Pee X ea Wx o mo) (hb : attributeBase o fl X.env (eval o X.env) = eval o X.env := by rfl) : Pee X ea Wx (.Attribute o fl pos) (mUn (fFld nms fl) mo) := by
  obtain ⟨t, q, r⟩ := ho.ex
  exact ⟨_, pe_fld q hb, ref_un (r := tFldU X.K fl) (fld_hr hF) r⟩
theorem pes_fld (hF : ClsN X.K X.mg nms fl) (ho : Pee X ea Wx o mo) (hv : Pee X ea Wx e mv) (hs : swapsWith e (some (.Attribute o fl tpos)) pos.line X.env = pure false := by rfl) : Pes X ea Wx (.Assign [.Attribute o fl tpos] e pos) (mSetF nms fl mo mv) := by
  obtain ⟨t, q, r⟩ := ho.ex
  obtain ⟨t', q', r'⟩ := hv.ex
  exact ⟨_, ps_fld q q' hs, ref_setF hF r r'⟩
end
end Z
set_option Elab.async false
set_option linter.all false
set_option maxRecDepth 100000
namespace Z
open PySem PySem.Spec PyProof.Rows
open L2 hiding XE Takes CX takes_of passes_call passAt MkP PMk ps_raise mk_of ps_try_as ps_try_many pmk_own Takes.imp
open L2N
mutual
def noRef : W → Bool
  | .ref _ => false
  | .tup ws => noRefs ws
  | .lst ws => noRefs ws
  | .frl ws => noRefs ws
  | .dK kvs => noRefK kvs
  | .dT kvs => noRefT kvs
  | .dF kvs => noRefT kvs
  | .obj _ fs => noRefF fs
  | .slt _ ws => noRefs ws
  | .non => true
  | .bl _ => true
  | .int _ => true
  | .str _ => true
  | .byt _ => true
def noRefs : List W → Bool
  | [] => true
  | w :: ws => noRef w && noRefs ws
def noRefK : List (Key × W) → Bool
  | [] => true
  | (_, w) :: ws => noRef w && noRefK ws
def noRefT : List (List Key × W) → Bool
  | [] => true
  | (_, w) :: ws => noRef w && noRefT ws
def noRefF : List (Str × W) → Bool
  | [] => true
  | (_, w) :: ws => noRef w && noRefF ws
end
theorem noRefs_get : ∀ {ws : List W} {i : Nat} {w : W}, noRefs ws = true → ws[i]? = some w → noRef w = true
  | [], i, w, h, e => by simp at e
  | x :: ws, 0, w, h, e => by simp at e; subst e; simp [noRefs] at h; exact h.1
  | x :: ws, i + 1, w, h, e => by simp [noRefs] at h; exact noRefs_get h.2 (by simpa using e)
theorem noRefK_get : ∀ {ws : List (Key × W)} {i : Nat} {w : W}, noRefK ws = true → (ws.map (·.2))[i]? = some w → noRef w = true
  | [], i, w, h, e => by simp at e
  | x :: ws, 0, w, h, e => by simp at e; subst e; simp [noRefK] at h; exact h.1
  | x :: ws, i + 1, w, h, e => by simp [noRefK] at h; exact noRefK_get (i := i) h.2 (by simpa using e)
theorem noRefT_get : ∀ {ws : List (List Key × W)} {i : Nat} {w : W}, noRefT ws = true → (ws.map (·.2))[i]? = some w → noRef w = true
  | [], i, w, h, e => by simp at e
  | x :: ws, 0, w, h, e => by simp at e; subst e; simp [noRefT] at h; exact h.1
  | x :: ws, i + 1, w, h, e => by simp [noRefT] at h; exact noRefT_get (i := i) h.2 (by simpa using e)
theorem noRefF_get : ∀ {ws : List (Str × W)} {i : Nat} {w : W}, noRefF ws = true → (ws.map (·.2))[i]? = some w → noRef w = true
  | [], i, w, h, e => by simp at e
  | x :: ws, 0, w, h, e => by simp at e; subst e; simp [noRefF] at h; exact h.1
  | x :: ws, i + 1, w, h, e => by simp [noRefF] at h; exact noRefF_get (i := i) h.2 (by simpa using e)
def Cell.noRef : Cell → Bool
  | .lst ws => noRefs ws
  | .dK kvs => noRefK kvs
  | .dT kvs => noRefT kvs
  | .ins _ fs => noRefF fs
section
variable {K : PySem.W.Frag} {mg : Str → Option Value} {ea : EA} {io io' : List Addr} {Fr Fr' : Addr → Prop} {s s' s2 : S} {σ σ' : L2.St} {H H' : Hp} {w : W} {v : V} {c : Cell} {o : HO} {a p C : Addr} {ws : List W} {vs : List V} {M M' : Addr → Prop} {Wx : WX}
theorem Rw.noRef (h : Rw K mg io M H w v) (n : Z.noRef w = true) : Rw K mg io' M H w v := by
  induction h with
  | non => exact .non
  | bl b => exact .bl b
  | int i => exact .int i
  | str x => exact .str x
  | byt b => exact .byt b
  | tup h l q ih => exact .tup h l fun i w v a b => ih i w v a b (noRefs_get (by simpa [Z.noRef] using n) a)
  | frl h l q ih => exact .frl h l fun i w v a b => ih i w v a b (noRefs_get (by simpa [Z.noRef] using n) a)
  | lst h k l q ih => exact .lst h k l fun i w v a b => ih i w v a b (noRefs_get (by simpa [Z.noRef] using n) a)
  | dK h k l q ih => exact .dK h k l fun i w v a b => ih i w v a b (noRefK_get (by simpa [Z.noRef] using n) a)
  | dT h k l q ih => exact .dT h k l fun i w v a b => ih i w v a b (noRefT_get (by simpa [Z.noRef] using n) a)
  | dF h k l q ih => exact .dF h k l fun i w v a b => ih i w v a b (noRefT_get (by simpa [Z.noRef] using n) a)
  | obj m h k l q ih => exact .obj m h k l fun i w v a b => ih i w v a b (noRefF_get (by simpa [Z.noRef] using n) a)
  | slt m h k h2 k2 l q ih => exact .slt m h k h2 k2 l fun i w v a b => ih i w v a b (noRefs_get (by simpa [Z.noRef] using n) a)
  | ref h => simp [Z.noRef] at n
theorem Rc.noRef (h : Rc K mg io M H c o) (n : c.noRef = true) : Rc K mg io' M H c o := by
  cases c with
  | lst ws => obtain ⟨vs, e, h⟩ := h; exact ⟨vs, e, h.1, fun i w v a b => (h.2 i w v a b).noRef (noRefs_get n a)⟩
  | dK ws => obtain ⟨vs, e, h⟩ := h; exact ⟨vs, e, h.1, h.2.1, fun i w v a b => (h.2.2 i w v a b).noRef (noRefK_get n a)⟩
  | dT ws => obtain ⟨vs, e, h⟩ := h; exact ⟨vs, e, h.1, h.2.1, fun i w v a b => (h.2.2 i w v a b).noRef (noRefT_get n a)⟩
  | ins nm ws => obtain ⟨C, dx, vs, e, m, h⟩ := h; exact ⟨C, dx, vs, e, m, h.1, h.2.1, fun i w v a b => (h.2.2 i w v a b).noRef (noRefF_get n a)⟩
theorem child {α β : Type} {l1 : List α} {l2 : List β} (l : l1.length = l2.length) {i : Nat} {x : α} (a : l1[i]? = some x) : ∃ y, l2[i]? = some y :=
  ⟨_, List.getElem?_eq_getElem (by rw [← l]; exact get_lt a)⟩
theorem keys_len {κ α β : Type} {l1 : List (κ × α)} {l2 : List (κ × β)} (l : l1.map (·.1) = l2.map (·.1)) : (l1.map (·.2)).length = (l2.map (·.2)).length := by
  have := congrArg List.length l
  simpa using this
theorem Rw.shrink {more : List Addr} {H0 : Hp} {M0 : Addr → Prop} {v0 : V} (h0 : Rw K mg io M0 H0 w v0) : ∀ {v : V}, Rw K mg (io ++ more) M H w v → Rw K mg io M H w v := by
  induction h0 with
  | non => intro v h; cases h; exact .non
  | bl b => intro v h; cases h; exact .bl b
  | int i => intro v h; cases h; exact .int i
  | str x => intro v h; cases h; exact .str x
  | byt b => intro v h; cases h; exact .byt b
  | tup h l q ih =>
    intro v h'
    cases h' with
    | tup k1 k2 k3 =>
      refine .tup k1 k2 fun i w v a b => ?_
      obtain ⟨u, hu⟩ := child l a
      exact ih i w u a hu (k3 i w v a b)
  | frl h l q ih =>
    intro v h'
    cases h' with
    | frl k1 k2 k3 =>
      refine .frl k1 k2 fun i w v a b => ?_
      obtain ⟨u, hu⟩ := child l a
      exact ih i w u a hu (k3 i w v a b)
  | lst h n l q ih =>
    intro v h'
    cases h' with
    | lst k0 k1 k2 k3 =>
      refine .lst k0 k1 k2 fun i w v a b => ?_
      obtain ⟨u, hu⟩ := child l a
      exact ih i w u a hu (k3 i w v a b)
  | dK h n l q ih =>
    intro v h'
    cases h' with
    | dK k0 k1 k2 k3 =>
      refine .dK k0 k1 k2 fun i w v a b => ?_
      obtain ⟨u, hu⟩ := child (keys_len l) a
      exact ih i w u a hu (k3 i w v a b)
  | dT h n l q ih =>
    intro v h'
    cases h' with
    | dT k0 k1 k2 k3 =>
      refine .dT k0 k1 k2 fun i w v a b => ?_
      obtain ⟨u, hu⟩ := child (keys_len l) a
      exact ih i w u a hu (k3 i w v a b)
  | dF h n l q ih =>
    intro v h'
    cases h' with
    | dF k0 k1 k2 k3 =>
      refine .dF k0 k1 k2 fun i w v a b => ?_
      obtain ⟨u, hu⟩ := child (keys_len l) a
      exact ih i w u a hu (k3 i w v a b)
  | obj m h n l q ih =>
    intro v h'
    cases h' with
    | obj k00 k0 k1 k2 k3 =>
      refine .obj k00 k0 k1 k2 fun i w v a b => ?_
      obtain ⟨u, hu⟩ := child (keys_len l) a
      exact ih i w u a hu (k3 i w v a b)
  | slt m h n h2 n2 l q ih =>
    intro v h'
    cases h' with
    | slt k0 k1 k2 k3 k4 k5 k6 =>
      refine .slt k0 k1 k2 k3 k4 k5 fun i w v a b => ?_
      obtain ⟨u, hu⟩ := child l a
      exact ih i w u a hu (k6 i w v a b)
  | ref h =>
    intro v h'
    cases h' with
    | ref k =>
      rw [List.getElem?_append_left (get_lt h)] at k
      exact .ref k
theorem Rws.shrink {more : List Addr} {H0 : Hp} {M0 : Addr → Prop} {vs0 : List V} (h0 : Rws K mg io M0 H0 ws vs0) (h : Rws K mg (io ++ more) M H ws vs) : Rws K mg io M H ws vs := ⟨h.1, fun i w v a b => by
  obtain ⟨u, _, r⟩ := h0.get a
  exact r.shrink (h.2 i w v a b)⟩
theorem Rc.shrink {more : List Addr} {H0 : Hp} {M0 : Addr → Prop} {o0 : HO} (h0 : Rc K mg io M0 H0 c o0) (h : Rc K mg (io ++ more) M H c o) : Rc K mg io M H c o := by
  cases c with
  | lst ws => obtain ⟨vs, e, h⟩ := h; obtain ⟨vs0, _, h0⟩ := h0; exact ⟨vs, e, h0.shrink h⟩
  | dK ws => obtain ⟨vs, e, h⟩ := h; obtain ⟨vs0, _, h0⟩ := h0; exact ⟨vs, e, h.1, h0.2.shrink h.2⟩
  | dT ws => obtain ⟨vs, e, h⟩ := h; obtain ⟨vs0, _, h0⟩ := h0; exact ⟨vs, e, h.1, h0.2.shrink h.2⟩
  | ins nm ws => obtain ⟨C, dx, vs, e, m, h⟩ := h; obtain ⟨_, _, _, _, _, h0⟩ := h0; exact ⟨C, dx, vs, e, m, h.1, h0.2.shrink h.2⟩
theorem GSim.pop {G : List Cell} (g0 : GSim K mg io Fr G H) (g : GSim K mg (io ++ [a]) Fr' (G ++ [c]) H') (h : ∀ b, Fr b → Fr' b) (m : ∀ b, Mu io Fr' b → Mu io Fr b) : GSim K mg io Fr' G H' where
  len := g0.len
  cell := fun n b c' h1 h2 => by
    obtain ⟨o, e, r⟩ := g.cell n b c' (by rw [List.getElem?_append_left (get_lt h1)]; exact h1) (by rw [List.getElem?_append_left (get_lt h2)]; exact h2)
    obtain ⟨o0, _, r0⟩ := g0.cell n b c' h1 h2
    exact ⟨o, e, r0.shrink (r.pers (.less fun x z => z.imp (fun z => List.mem_append_left _ z) id))⟩
  nd := g0.nd
  dj := fun x hx => g.dj x (List.mem_append_left _ hx)
  fr := g.fr
open Classical in
noncomputable def makeG (nm : Str) (m : Fn) (ws : List W) : Mo RV := fun s => match m (.ref s.G.length :: ws) (s.G ++ [.ins nm []]) with
  | some (.ok (.val .non), G') => match G'.drop s.G.length with
    | [c] => if G'.take s.G.length = s.G ∧ c.noRef = true then some (.ok (.own c), s) else none
    | _ => none
  | some (.error x, G') => if G'.take s.G.length = s.G ∧ noRefF x.fs = true ∧ G'.length = s.G.length + 1 then some (.error x, s) else none
  | _ => none
theorem Sim.pushIns {x dx : Addr} {nm : Str} (S0 : Sim K mg ea io Fr s σ H) (hC : mg nm = some (.ref C)) (hx : H x = none) (hdx : H dx = none) (ne : dx ≠ x) :
    GSim K mg (io ++ [x]) (FrO Fr s.r σ) (s.G ++ [.ins nm []]) (upd (upd H dx (.own x)) x (.ins C dx [])) ∧ Stp io (Ms io Fr s σ) (FrO Fr s.r σ) H (io ++ [x]) (Mu (io ++ [x]) (FrO Fr s.r σ)) (upd (upd H dx (.own x)) x (.ins C dx [])) := by
  have kp : ∀ b u, H b = some u → upd (upd H dx (.own x)) x (.ins C dx []) b = some u := fun b u e => by
    rw [upd_ne (ne_of_none e hx), upd_ne (ne_of_none e hdx)]; exact e
  have same : ∀ b, Ms io Fr s σ b → upd (upd H dx (.own x)) x (.ins C dx []) b = H b := fun b z => by
    obtain ⟨u, e⟩ := S0.trk z
    rw [kp b u e, e]
  have nM : ¬ Ms io Fr s σ x := fun z => by
    obtain ⟨u, e⟩ := S0.trk z
    rw [hx] at e; cases e
  have q : Pers io (Ms io Fr s σ) H (io ++ [x]) (Mu (io ++ [x]) (FrO Fr s.r σ)) (upd (upd H dx (.own x)) x (.ins C dx [])) := ⟨fun b u e _ => kp b u e, fun b z => by
    rcases z with z | z
    · rcases List.mem_append.mp z with z | z
      · exact .inl (.inl z)
      · rw [List.mem_singleton] at z; exact .inr (by rw [z]; exact hx)
    · exact .inl (.inr z), fun n b e => by rw [List.getElem?_append_left (get_lt e)]; exact e⟩
  refine ⟨⟨by simp [S0.g.len], fun n b c h1 h2 => ?_, ?_, fun b hb z => ?_, fun b z => ?_⟩, q, fun b z => same b (.inr z), fun b u e => ⟨u, kp b u e⟩⟩
  · rcases Nat.lt_or_ge n io.length with hl | hl
    · rw [List.getElem?_append_left hl] at h1
      rw [List.getElem?_append_left (by rw [← S0.g.len]; exact hl)] at h2
      obtain ⟨u, e, r⟩ := S0.g.cell n b c h1 h2
      exact ⟨u, kp b u e, r.pers q⟩
    · rw [List.getElem?_append_right hl] at h1
      rw [List.getElem?_append_right (by rw [← S0.g.len]; exact hl), ← S0.g.len] at h2
      have e0 : n - io.length = 0 := by
        have := get_lt h1
        simpa using this
      rw [e0] at h1 h2
      simp at h1 h2
      subst h1; subst h2
      exact ⟨_, upd_same, C, dx, [], rfl, hC, Rkv.nil⟩
  · rw [List.nodup_append]
    refine ⟨S0.g.nd, by simp, fun b hb c hc => ?_⟩
    rw [List.mem_singleton] at hc
    subst hc
    exact fun z => nM (.inl (z ▸ hb))
  · rcases List.mem_append.mp hb with h | h
    · exact S0.g.dj b h z
    · rw [List.mem_singleton] at h
      subst h
      exact nM (.inr z)
  · obtain ⟨u, e, n⟩ := S0.g.fr b z
    exact ⟨u, kp b u e, n⟩
theorem make_use {n : Nat} {m : Fn} {nm : Str} {x dx : Addr} (S0 : Sim K mg ea io Fr s σ H) (R : Rws K mg io (Ms io Fr s σ) H ws vs) (hn : vs.length + 1 = n) (hC : mg nm = some (.ref C)) (hx : H x = none) (hdx : H dx = none) (ne : dx ≠ x)
    {r : Except Ex RV} (e : makeG nm m ws s = some (r, s')) {Q : VK}
    (hok : ∀ x, r = .ok x → ∀ v H' io', PostE K mg ea io Fr s σ H s' io' H' x v → Q v H') (hex : ∀ x, r = .error x → ∀ cls d H' io', PostX K mg ea io Fr s σ H s' σ io' H' x cls d → Wx cls d σ H') :
    spM K mg n m (.ref x :: vs) (upd (upd H dx (.own x)) x (.ins C dx [])) (fun v H2 => v = .non ∧ Q (.ref x) H2) (WE Wx σ) := by
  obtain ⟨g1, T1⟩ := S0.pushIns hC hx hdx ne
  have R1 : Rws K mg (io ++ [x]) (Mu (io ++ [x]) (FrO Fr s.r σ)) (upd (upd H dx (.own x)) x (.ins C dx [])) (.ref s.G.length :: ws) (.ref x :: vs) :=
    Rws.cons (.ref (by rw [← S0.g.len, List.getElem?_append_right (Nat.le_refl _)]; simp)) (R.pers T1.p)
  have nown : ∀ a (i : Nat) c, s.r[i]? = some (.own c) → σ[i]? = some (some (V.ref a)) → ¬ Fr a := fun a i c h1 h2 => by
    obtain ⟨b, o, q1, _, _, q4⟩ := S0.own i c h1
    rw [h2] at q1; cases q1
    exact q4
  have nFx : ¬ FrO Fr s.r σ x := g1.dj x (by simp)
  unfold makeG at e
  have last : ∀ {G' : List Cell} {io' : List Addr} {H' : Hp}, GSim K mg io' (FrO Fr s.r σ) G' H' → Stp (io ++ [x]) (Mu (io ++ [x]) (FrO Fr s.r σ)) (FrO Fr s.r σ) (upd (upd H dx (.own x)) x (.ins C dx [])) io' (Mu io' (FrO Fr s.r σ)) H' →
      G'.length = s.G.length + 1 → G'.take s.G.length = s.G → ∃ c, G' = s.G ++ [c] ∧ io' = io ++ [x] := fun {G' io' H'} g T hl ht => by
    have hl2 : io'.length = io.length + 1 := by rw [g.len, hl, S0.g.len]
    refine ⟨G'[s.G.length]'(by omega), ?_, ?_⟩
    · conv => lhs; rw [← List.take_append_drop s.G.length G', ht]
      congr 1
      rw [drop_get (by omega), List.drop_eq_nil_of_le (by omega)]
    · apply List.ext_getElem?
      intro i
      rcases Nat.lt_or_ge i (io ++ [x]).length with q | q
      · rw [List.getElem?_eq_getElem q]
        exact T.p.ext i _ (List.getElem?_eq_getElem q)
      · rw [List.getElem?_eq_none (by simp only [List.length_append, List.length_singleton] at q; omega), List.getElem?_eq_none q]
  split at e
  · rename_i G' k
    split at e
    · rename_i c hd
      split at e
      · rename_i hc
        cases e
        refine ⟨by simpa using hn, io ++ [x], FrO Fr s.r σ, _, _, _, G', g1, R1, k, fun f q v H' io' p => ?_, (fun _ q => by cases q)⟩
        cases q
        obtain ⟨g, T, r⟩ := p
        cases r
        refine ⟨rfl, ?_⟩
        have hl : G'.length = s.G.length + 1 := by
          have := congrArg List.length hd
          simp only [List.length_drop, List.length_singleton] at this
          omega
        obtain ⟨c', hG, rfl⟩ := last g T hl hc.1
        have hcc : c' = c := by
          rw [hG, List.drop_left] at hd
          simpa using hd
        subst hcc
        subst hG
        obtain ⟨o, ho, rc⟩ := g.cell io.length x c' (by rw [List.getElem?_append_right (Nat.le_refl _)]; simp) (by rw [S0.g.len, List.getElem?_append_right (Nat.le_refl _)]; simp)
        have le : ∀ b, Mu io (FrO (pls Fr x) s.r σ) b → Mu (io ++ [x]) (FrO Fr s.r σ) b := fun b z => by
          rcases z with z | z
          · exact .inl (List.mem_append_left _ z)
          · rcases (fro_pls b).1 z with z | z
            · exact .inr z
            · exact .inl (by rw [z]; simp)
        have ge : ∀ b, Mu (io ++ [x]) (FrO Fr s.r σ) b → Mu io (pls (FrO Fr s.r σ) x) b := fun b z => by
          rcases z with z | z
          · rcases List.mem_append.mp z with z | z
            · exact .inl z
            · rw [List.mem_singleton] at z; exact .inr (.inr z)
          · exact .inr (.inl z)
        have gp : GSim K mg io (FrO (pls Fr x) s.r σ) s.G H' := by
          refine ⟨S0.g.len, fun n b c2 h1 h2 => ?_, S0.g.nd, fun b hb z => ?_, fun b z => ?_⟩
          · obtain ⟨u, e1, r1⟩ := g.cell n b c2 (by rw [List.getElem?_append_left (get_lt h1)]; exact h1) (by rw [List.getElem?_append_left (get_lt h2)]; exact h2)
            obtain ⟨u0, _, r0⟩ := S0.g.cell n b c2 h1 h2
            exact ⟨u, e1, r0.shrink (r1.pers (.less le))⟩
          · rcases (fro_pls b).1 z with z | z
            · exact S0.g.dj b hb z
            · subst z
              have := g.nd
              rw [List.nodup_append] at this
              exact this.2.2 b hb b (by simp) rfl
          · rcases (fro_pls b).1 z with z | z
            · exact g.fr b z
            · exact ⟨o, by rw [z]; exact ho, rc.nt⟩
        have TT := T1.trans T
        have T2 : Stp io (Ms io Fr s σ) (FrO Fr s.r σ) H io (Mu io (FrO (pls Fr x) s.r σ)) H' := ⟨⟨TT.p.keep, fun b z => TT.p.new b (le b z), fun _ _ e => e⟩, TT.fr, TT.trk⟩
        refine hok _ rfl _ H' io ⟨x, o, rfl, ho, nFx, S0.call gp T2 fun b i c2 h1 h2 z => ?_, T2.frless fun b z => .inl z, (rc.pers (.less le)).noRef hc.2⟩
        rcases z with z | z
        · exact nown b i c2 h1 h2 z
        · subst z
          exact nFx (.inr ⟨i, c2, h1, h2⟩)
      · cases e
    · cases e
  · rename_i xx G' k
    split at e
    · rename_i hc
      cases e
      refine ⟨by simpa using hn, io ++ [x], FrO Fr s.r σ, _, _, _, G', g1, R1, k, (fun _ q => by cases q), fun x' q cls d H' io' p => ?_⟩
      cases q
      obtain ⟨g, T, xr⟩ := p
      obtain ⟨c', hG, rfl⟩ := last g T hc.2.2 hc.1
      subst hG
      have le : ∀ b, Mu io (FrO Fr s.r σ) b → Mu (io ++ [x]) (FrO Fr s.r σ) b := fun b z => z.imp (fun z => List.mem_append_left _ z) id
      have gp : GSim K mg io (FrO Fr s.r σ) s.G H' := S0.g.pop g (fun _ z => z) fun b z => z
      have TT := T1.trans T
      have T2 : Stp io (Ms io Fr s σ) (FrO Fr s.r σ) H io (Mu io (FrO Fr s.r σ)) H' := ⟨⟨TT.p.keep, fun b z => TT.p.new b (le b z), fun _ _ e => e⟩, TT.fr, TT.trk⟩
      refine hex _ rfl cls d H' io ⟨S0.call gp T2 nown, T2.frless fun b z => .inl z, ?_⟩
      obtain ⟨C2, y1, y2, y3⟩ := xr
      refine ⟨C2, y1, y2, y3.imp id ?_⟩
      rintro ⟨dd, us, z1, z2, z3, z4⟩
      exact ⟨dd, us, z1, z2, fun z => z3 (le _ z), z4.1, z4.2.1, fun i w v a b => ((z4.2.2 i w v a b).pers (.less le)).noRef (noRefF_get hc.2.1 a)⟩
    · cases e
  · cases e
noncomputable def mMake (nm : Str) (n : Nat) (m : Fn) (ds : List W) (ms : Mo (List RV)) : Mo RV := bnd ms fun xs => bnd (freezeAll xs) fun ws => if (ws ++ ds).length + 1 = n then makeG nm m (ws ++ ds) else stk
theorem ref_make {n : Nat} {m : Fn} {nm : Str} {t : TA} {ms : Mo (List RV)} {ds : List W} {dvs : List V} (hC : mg nm = some (.ref C)) (hd : Dfl K mg ds dvs) (ha : RefA K mg ea Wx t ms) :
    RefE K mg ea Wx (tMakeS C (spM K mg n m) dvs (WE Wx) t) (mMake nm n m ds ms) := by
  intro σ H io Fr s S0 r0 s' e Q hok hex
  refine arg2 ha S0 e hex fun xs vs s1 H1 io1 e2 px R1 => ?_
  rcases bnd_some e2 with ⟨x, e3, rfl⟩ | ⟨ws, s2, e3, e4⟩
  · obtain ⟨_, _, _, _, q, _⟩ := freezeAll_ok px.1 R1 e3
    cases q
  · obtain ⟨_, m2, S2, ws', q, r2⟩ := freezeAll_ok px.1 R1 e3
    cases q
    split at e4
    · rename_i hn
      intro x dx hx hdx ne
      have T2 := px.2.less m2
      have RR := r2.append (hd io1 _ H1)
      exact make_use S2 RR (by rw [← RR.1]; exact hn) hC hx hdx ne e4 (fun x q v H' io' p => hok x q v H' io' (p.trans T2)) fun x q cls d H' io' p => hex x q cls d H' io' ⟨p.1, T2.trans p.2.1, p.2.2⟩
    · cases e4
end
section
variable {X : Cx} {ea : EA} {Wx : WX} {e o : Expr} {es : List Expr} {mo mv : Mo RV} {ms : Mo (List RV)} {m : Fn} {k : Nat} {f C : Addr} {fd : FuncData} {ps : List Str} {x : Str} {p pos apos tpos : Pos} {ds : List Value} {dw : List W} {dvs : List V}
theorem pee_make (hC : X.mg x = some (.ref C)) (M : Mk X.K C f) (F : FnM X.prog X.w X.K X.mg X.base k f fd ps m) (hr : Room (k + 1) X.A) (hb : Binds X.K fd ps ds) (hd : Vals dvs ds) (hw : Dfl X.K X.mg dw dvs) (tk : Takes X Wx) (ha : Pea X ea Wx (e :: es) ms) (hg : Gl X x := by rfl)
    (hdb : (x == ("__debug__" : Str)) = false := by decide) (he : starEach (e :: es) X.env = (false, eval e X.env) :: starEach es X.env := by rfl) (hpl : (backTo pos (starEach es X.env)).any (·.1) = false := by rfl) :
    Pee X ea Wx (.Call (.Name x p) (e :: es) [] pos) (mMake x ps.length m dw ms) := by
  obtain ⟨t, q, r⟩ := ha.ex
  exact ⟨_, pe_makeS M F.ok hr hg hC hb hd (fun σ => passAt tk σ) q hdb he hpl, ref_make hC hw r⟩
theorem pee_make0 (hC : X.mg x = some (.ref C)) (M : Mk X.K C f) (F : FnM X.prog X.w X.K X.mg X.base k f fd ps m) (hr : Room (k + 1) X.A) (hb : Binds X.K fd ps ds) (hd : Vals dvs ds) (hw : Dfl X.K X.mg dw dvs) (tk : Takes X Wx) (hg : Gl X x := by rfl)
    (hdb : (x == ("__debug__" : Str)) = false := by decide) : Pee X ea Wx (.Call (.Name x p) [] [] pos) (mMake x ps.length m dw mNil) :=
  ⟨_, pe_makeS0 M F.ok hr hg hC hb hd (fun σ => passAt tk σ) hdb, ref_make hC hw ref_nil⟩
end
end Z
set_option Elab.async false
set_option linter.all false
set_option maxRecDepth 100000
namespace Z
open PySem PySem.Spec PyProof.Rows
open L2 hiding XE Takes CX takes_of passes_call passAt MkP PMk ps_raise mk_of ps_try_as ps_try_many pmk_own Takes.imp
open L2N
section
variable {K : PySem.W.Frag} {mg : Str → Option Value} {ea : EA} {io io' : List Addr} {Fr Fr' : Addr → Prop} {s s' s2 : S} {σ σ' : L2.St} {H H' : Hp} {w : W} {v : V} {c : Cell} {o : HO} {a p C : Addr} {ws : List W} {vs : List V} {M M' : Addr → Prop} {Wx : WX}
def spXI (K : PySem.W.Frag) (fs : List Str) : Sp := fun vs H Q _ => ∃ (a C : Addr) (us : List V), vs = .ref a :: us ∧ us.length = fs.length ∧ H a = some (exo a C none) ∧ OexC K C ∧ (∀ f ∈ fs, PySem.W.findIn K (.ref C) f = some none) ∧
  ∀ dx H', H dx = none → dx ≠ a → H' a = some (exo a C (some dx)) → H' dx = some (exd dx (fs.zip us).reverse) → (∀ b, b ≠ a → b ≠ dx → H' b = H b) → Q .non H'
section
variable {P : Program} {w : World} {base : Heap} {x qual : Str} {st : Stmt} {f : Addr} {fd : FuncData} {N : List Str} {f1 f2 f3 n1 n2 n3 : Str}
theorem xi1 (F : Fun K x qual st f fd) (S : FnScope ["self", n1] ["self", n1] (defScope st))
    (hb : ∀ (cdv : Value) (A : Around) (outer : List Env) (s : Shared) (H : Hp) (E : XK), Room 0 (A.deeper (envOfC qual (defScope st) s.heap.objs.size f cdv)) →
      PSs (cxOf (L2N.CX P w) P w K mg base ["self", n1] qual (defScope st) f cdv A outer s H E) (defBody st) (tOst K f1 (tVar 0) (tVar 1))) : FnOk P w K mg base (L2N.CX P w) 1 f fd ["self", n1] (spXI K [f1]) := by
  refine okN F S (fun vs H Q E h => ?_) fun cdv A outer s H vs Q E hr h => ?_
  · obtain ⟨a, C, us, rfl, hl, _⟩ := h
    simpa using hl
  · obtain ⟨a, C, us, rfl, hl, ha, T, hf, q⟩ := h
    obtain ⟨u, rfl⟩ : ∃ u, us = [u] := by
      match us, hl with
      | [u], _ => exact ⟨u, rfl⟩
    refine ⟨_, hb cdv A outer s H E hr, _, rfl, _, rfl, a, C, rfl, T, hf _ (by simp), .inl ⟨ha, fun dx hd ne => ?_⟩⟩
    exact q dx _ hd ne (by rw [upd_same]) (by rw [upd_ne ne, upd_same]; rfl) fun b h1 h2 => by rw [upd_ne h1, upd_ne h2]
end
def mRaise (nm : Str) (fs : List Str) (ms : Mo (List RV)) : Mo Fl := bnd ms fun xs => bnd (freezeAll xs) fun ws => if ws.length = fs.length ∧ ws.length ≤ 1000 then raiseM ⟨nm, (fs.zip ws).reverse⟩ else stk
theorem Rkv.append {κ : Type} {ws ws' : List (κ × W)} {vs vs' : List (κ × V)} (h : Rkv K mg io M H ws vs) (t : Rkv K mg io M H ws' vs') : Rkv K mg io M H (ws ++ ws') (vs ++ vs') :=
  ⟨by simp [h.1, t.1], by simpa using h.2.append t.2⟩
theorem Rkv.zipRev : ∀ {fs : List Str} {ws : List W} {vs : List V}, ws.length = fs.length → Rws K mg io M H ws vs → Rkv K mg io M H (fs.zip ws).reverse (fs.zip vs).reverse
  | [], ws, vs, hl, r => by simp; exact Rkv.nil
  | f :: fs, [], vs, hl, r => by simp at hl
  | f :: fs, w :: ws, vs, hl, r => by
    obtain ⟨v, t, rfl, h1, h2⟩ := r.cons_inv
    simp only [List.zip_cons_cons, List.reverse_cons]
    exact (Rkv.zipRev (by simpa using hl) h2).append (Rkv.cons h1 Rkv.nil)
theorem ref_raise {nm : Str} {fs : List Str} {ta : TA} {ms : Mo (List RV)} (hC : mg nm = some (.ref C)) (T : OexC K C) (hf : ∀ f ∈ fs, PySem.W.findIn K (.ref C) f = some none) (ha : RefA K mg ea Wx ta ms) (nz : fs ≠ []) :
    RefS K mg ea Wx (fun _ σ H => tMkO C (spXI K fs) [] ta σ H fun cls d H' => Wx cls d σ H') (mRaise nm fs ms) := by
  intro σ H io Fr s S0 r0 s' e D hnx hbk hct hrt hex
  refine arg2 ha S0 e (fun x q cls d H' io' px => hex x q cls d σ H' io' px) fun xs vs s1 H1 io1 e2 px R1 => ?_
  rcases bnd_some e2 with ⟨x, e3, rfl⟩ | ⟨ws, s2, e3, e4⟩
  · obtain ⟨_, _, _, _, q, _⟩ := freezeAll_ok px.1 R1 e3
    cases q
  · obtain ⟨_, m2, S2, ws', q, r2⟩ := freezeAll_ok px.1 R1 e3
    cases q
    split at e4
    · rename_i hn
      cases e4
      refine ⟨by rw [← r2.1]; exact hn.2, fun a ha => ⟨a, C, vs, by simp, by rw [← r2.1]; exact hn.1, upd_same, T, hf, fun dx H' hd ne e1 e2 e3 => ⟨rfl, dx, _, e1, e2, ?_, ?_⟩⟩⟩
      · rw [upd_ne ne] at hd; exact hd
      · have hd1 : H1 dx = none := by rw [upd_ne ne] at hd; exact hd
        have eH : upd (del H' a) dx (.xd (fs.zip vs).reverse) = upd H1 dx (.xd (fs.zip vs).reverse) := by
          funext b
          by_cases hb : b = dx
          · subst hb; rw [upd_same, upd_same]
          · rw [upd_ne hb, upd_ne hb]
            by_cases hba : b = a
            · subst hba; rw [del_same, ha]
            · rw [del_ne hba, e3 b hba hb, upd_ne hba]
        rw [eH]
        obtain ⟨S3, T3⟩ := S2.laid (o := .xd (fs.zip vs).reverse) hd1
        refine hex _ rfl _ _ σ _ io1 ⟨S3, (px.2.less m2).trans T3, C, hC, rfl, .inr ⟨dx, _, rfl, upd_same, fun z => ?_, Rkv.zipRev hn.1 (r2.pers T3.p)⟩⟩
        obtain ⟨u, e⟩ := S2.trk z
        rw [hd1] at e; cases e
    · cases e4
end
theorem pmk_oexN {X : Cx} {FX : CXT} {e : Expr} {es : List Expr} {ta : TA} {x : Str} {C g : Addr} {k : Nat} {fd : FuncData} {ps : List Str} {sp : Sp} {p pos : Pos} (T : OexC X.K C) (iC : PySem.W.findIn X.K (.ref C) "__init__" = some (some (.ref g))) (tI : PySem.W.typeIn X.K (.ref g) = some (.type "function"))
    (F1 : FnOk X.prog X.w X.K X.mg X.base FX k g fd ps sp) (rm : Room (k + 1) X.A) (bd : Binds X.K fd ps []) (no : Passes FX X (fun _ _ _ => False)) (hg : Gl X x) (hm : X.mg x = some (.ref C)) (ha : PA X (e :: es) ta)
    (hdb : (x == ("__debug__" : Str)) = false) (he : starEach (e :: es) X.env = (false, eval e X.env) :: starEach es X.env) (hpl : (backTo pos (starEach es X.env)).any (·.1) = false) :
    PMk X (.Call (.Name x p) (e :: es) [] pos) (tMkO C sp [] ta) := by
  intro pins s0 σ H0 Q I0 h0
  obtain ⟨_, _, _, _, bm, _, _, _, _, _, _, _, _, _, _, isC, bmE⟩ := T.cls
  refine wpAny_Call_Name_kw (ld_glob I0 hg hm ?_ hdb)
  refine PySem.W.callWith_K (h₀ := X.base) I0.ok.mod.kin T.kC (thn (ha.run pos pins s0 σ H0 _ I0 h0) fun us ⟨m, gs, dr, tk, os⟩ ⟨vs, H1, I1, r1, _, q1⟩ => ⟨I1.kIn, ?_⟩) he hpl
  show wpAny _ _ (call (.ref C) us) _ _ _
  let a : Addr := m.objs.size + 1
  let m2 : Heap := (m.push (PySem.W.kdv_tup us)).push (PySem.HandSPX.excO C m.objs.size)
  have above : m.objs.size ≤ a := Nat.le_succ _
  have q2 := q1 a (I1.hok.fresh above)
  rw [List.append_nil] at q2
  have stays : ∀ b o, m.get? b = some o → m2.get? b = some o := fun b o z => Heap.get?_push_of_some _ (Heap.get?_push_of_some _ z)
  have mine : m2.get? a = some (PySem.HandSPX.excO C m.objs.size) := by
    show ((m.push _).push _).get? (m.objs.size + 1) = _
    heap_get
  have I2 : Inv X pins σ (upd H1 a (exo a C none)) ⟨m2, gs, dr, tk, os⟩ := I1.laid (t' := tk) (o := exo a C none) stays above (exo_ok mine)
  have r2 : Vals (V.ref a :: vs) (Value.ref a :: us) := .cons rfl r1
  have ln : (Value.ref a :: us).length = ps.length := r2.length.symm.trans (F1.len _ _ _ _ q2)
  have line : us.length ≤ sizeLine := by
    rw [← Paired.length r1, sizeLine_eq]
    omega
  have b2 := bd ⟨m2, gs, dr, tk, os⟩ (Value.ref a :: us) I2.kIn (by rw [List.append_nil]; exact ln)
  rw [List.append_nil] at b2
  have body := F1.run _ X.stack _ _ ⟨Value.ref a :: us, []⟩ (Value.ref a :: us) _ _ (fun _ _ _ => False) (rm.make C us []) (I2.env0.make C us []) b2 r2 q2
  refine wpAny_call (PySem.HandSPX.call_own F.excBase_ValueError (fun Y => PySem.HandSPX.refsVE_contains Y bm bmE) (I1.kIn _ _ isC) (PySem.W.looks_findIn I1.kIn iC) (fun self => PySem.W.bind_fn I1.kIn self tI) line (codeAny_mono body fun r s' after => ?_))
  match r, after with
  | .error er, after => exact no pins σ _ _ er s' I2 after
  | .ok (.ret u), ⟨v, H2, os2, bare, un2, hok2, rv, ev, d, fs, ea, ed, hd1, q3⟩ =>
    subst ev
    obtain ⟨m3, g3, d3, t3, os3⟩ := s'
    obtain ⟨_, G, J, kG, gone, there, na⟩ := mk_end0 (d2 := d3) (t2 := t3) I1 above stays un2 hok2 os2 bare ea ed hd1
    exact ⟨rv, a, _, _, ⟨G, g3, d3, t3, os3⟩, _, .ref C, some d, rfl, J, kG, gone, there, ⟨rfl, rfl, fun vs hv => by cases hv; rfl⟩, rfl, rfl, na, rfl, bare, raises_own T.exC T.tyC, q3⟩
section
variable {X : Cx} {ea : EA} {Wx : WX} {e o : Expr} {es : List Expr} {ms : Mo (List RV)} {k : Nat} {f C : Addr} {fd : FuncData} {ps fs : List Str} {x : Str} {p pos pos' : Pos}
theorem pes_raise (hC : X.mg x = some (.ref C)) (T : OexC X.K C) (hf : ∀ f ∈ fs, PySem.W.findIn X.K (.ref C) f = some none) (nz : fs ≠ []) (iC : PySem.W.findIn X.K (.ref C) "__init__" = some (some (.ref f))) (tI : PySem.W.typeIn X.K (.ref f) = some (.type "function"))
    (F1 : FnOk X.prog X.w X.K X.mg X.base (L2N.CX X.prog X.w) k f fd ps (spXI X.K fs)) (hr : Room (k + 1) X.A) (hb : Binds X.K fd ps []) (tk : Takes X Wx) (ha : Pea X ea Wx (e :: es) ms) (hc : X.calm = true := by rfl) (hg : Gl X x := by rfl)
    (hdb : (x == ("__debug__" : Str)) = false := by decide) (he : starEach (e :: es) X.env = (false, eval e X.env) :: starEach es X.env := by rfl) (hpl : (backTo pos (starEach es X.env)).any (·.1) = false := by rfl) :
    Pes X ea Wx (.Raise (some (.Call (.Name x p) (e :: es) [] pos)) none pos') (mRaise x fs ms) := by
  obtain ⟨t, q, r⟩ := ha.ex
  exact ⟨_, ps_raise hc tk (pmk_oexN T iC tI F1 hr hb passN hg hC q hdb he hpl), ref_raise hC T hf r nz⟩
end
end Z
set_option Elab.async false
set_option linter.all false
set_option maxRecDepth 100000
namespace Z
open PySem PySem.Spec PyProof.Rows
open L2 hiding XE Takes CX takes_of passes_call passAt MkP PMk ps_raise mk_of ps_try_as ps_try_many pmk_own Takes.imp
open L2N
abbrev HdT := Value × Option Nat × (Addr → Value → Option Addr → TS)
def endsAt (i : Nat) (D : Ends) : Ends := { nx := fun σ' H' => D.nx (σ'.set i none) H', rt := D.rt, bk := fun σ' H' => D.bk (σ'.set i none) H', ct := fun σ' H' => D.ct (σ'.set i none) H' }
def wHds (K : PySem.W.Frag) (Wout : WX) (D : Ends) : List HdT → WX
  | [] => Wout
  | (c, none, ts) :: r => fun cls d σ H => ∃ b, PySem.W.exmOne K cls c = some b ∧ (b = true → ∀ a, H a = none → ts a cls d D σ H) ∧ (b = false → wHds K Wout D r cls d σ H)
  | (c, some i, ts) :: r => fun cls d σ H => ∃ b, PySem.W.exmOne K cls c = some b ∧ (b = true → ∀ a, H a = none → ts a cls d (endsAt i D) (σ.set i (some (.ref a))) H) ∧ (b = false → wHds K Wout D r cls d σ H)
inductive HdsN (X : Cx) : List ExceptHandler → List HdT → Prop
  | nil : HdsN X [] []
  | cons {x : Str} {c : Value} {ts : Addr → Value → Option Addr → TS} {b₀ : Stmt} {suite : List Stmt} {np pos' : Pos} {hds : List ExceptHandler} {l : List HdT} (hc : Names X x c)
      (hsu : ∀ (a : Addr) (oe : Obj) (cls : Value) (d : Option Addr) (pn : List (Addr × Obj)), Zn cls d oe → (∃ vs, oe.data = .fields vs) → PSs (X.suite a ((a, oe) :: pn)) (b₀ :: suite) (ts a cls d)) (r : HdsN X hds l) :
      HdsN X (.ExceptHandler (some (.Name x np)) none (b₀ :: suite) pos' :: hds) ((c, none, ts) :: l)
  | consAs {x n : Str} {c : Value} {i : Nat} {ts : Addr → Value → Option Addr → TS} {b₀ : Stmt} {suite : List Stmt} {np pos' : Pos} {hds : List ExceptHandler} {l : List HdT} (hc : Names X x c) (hi : X.N[i]? = some n) (hln : X.env.kindOf n = some .local)
      (hsu : ∀ (a : Addr) (oe : Obj) (cls : Value) (d : Option Addr) (pn : List (Addr × Obj)), Zn cls d oe → (∃ vs, oe.data = .fields vs) → PSs (X.suite a ((a, oe) :: pn)) (b₀ :: suite) (ts a cls d)) (r : HdsN X hds l) :
      HdsN X (.ExceptHandler (some (.Name x np)) (some n) (b₀ :: suite) pos' :: hds) ((c, some i, ts) :: l)
section
variable {X : Cx} {body : List Stmt} {h₀ : ExceptHandler} {hds : List ExceptHandler} {l : List HdT} {pos : Pos} {tb : WX → TS} {Wout : WX}
structure Got (X : Cx) (pl : List (Addr × Obj)) (a : Addr) (B : Heap) (sI : Shared) (σ : L2.St) (H : Hp) (cls : Value) (d : Option Addr) (s : Shared) : Prop where
  own : X.stack = X.env :: X.outer
  at_ : X.env.frame = some X.env.locals
  old : Inv X pl σ H sI
  nb : ∀ b o, sI.heap.get? b = some o → b ∉ frs X.stack → B.get? b = some o
  fly : HandSPX.FlyingZ B (X.env :: X.outer) a (Zn cls d) s.heap
  up : sI.heap.UpToSlots s.heap
  na : H a = none
  os : s.os = sI.os
  ag : AllBare s.gens
section
variable {pl : List (Addr × Obj)} {a : Addr} {B : Heap} {sI s : Shared} {σ : L2.St} {H : Hp} {cls c : Value} {d : Option Addr} {x n : Str} {np p2 : Pos} {D : Ends} {b0 : Stmt} {bs : List Stmt} {ts : Addr → Value → Option Addr → TS} {i : Nat}
theorem Got.inv (g : Got X pl a B sI σ H cls d s) : Inv X pl σ H s := g.old.landed g.nb g.fly.1 g.up g.os g.ag
theorem Got.move {h : Heap} (g : Got X pl a B sI σ H cls d s) (fl : HandSPX.FlyingZ B (X.env :: X.outer) a (Zn cls d) h) (u : s.heap.UpToSlots h) : Got X pl a B sI σ H cls d { s with heap := h } := { g with fly := fl, up := g.up.trans u }
theorem Got.noFrame (g : Got X pl a B sI σ H cls d s) : a ∉ frs (X.env :: X.outer) := fun hm => by
  obtain ⟨oe, us, e1, _, e2⟩ := g.fly.there
  obtain ⟨_, o2, e3, e4⟩ := g.fly.2.2.1.mem hm
  exact e4 us (by rw [← Option.some.inj (e1.symm.trans e3)]; exact e2)
theorem Got.inSuite (g : Got X pl a B sI σ H cls d s) : ∃ oe, s.heap.get? a = some oe ∧ Zn cls d oe ∧ (∃ us, oe.data = .fields us) ∧ Inv (X.suite a ((a, oe) :: (X.pn ++ pl))) [] σ H s := by
  obtain ⟨oe, us, e1, z, e2⟩ := g.fly.there
  have n1 : a ≠ X.env.locals := fun z => g.noFrame (List.mem_filterMap.mpr ⟨X.env, by simp, by rw [g.at_, z]⟩)
  have n2 : a ∉ X.fs := fun hm => let ⟨e, he, q⟩ := List.mem_filterMap.mp hm; g.noFrame (List.mem_filterMap.mpr ⟨e, List.mem_cons_of_mem _ he, q⟩)
  exact ⟨oe, e1, z, ⟨us, e2⟩, g.inv.suite e1 e2 g.na n1 n2⟩
theorem Got.asked {b : Bool} {R : Result → Shared → Prop} (g : Got X pl a B sI σ H cls d s) (nm : Names X x c) (hb : PySem.W.exmOne X.K cls c = some b) (h : R (.ok (if b then .brk else .next)) s) :
    codeAny (model X.prog X.w) (X.A.mark (some (.ref a))) (.handlers (.ref a) [.ExceptHandler (some (.Name x np)) none [] p2] X.env) R s := by
  obtain ⟨oe, e1, z, _, S⟩ := g.inSuite
  have look : PySem.W.Looks (model X.prog X.w) s.heap (typeOf (.ref a)) cls := fun _ _ _ _ k q => wpAny_typeOf_ref (k _ _ e1) (by rw [z.1]; exact q)
  refine codeAny_handlers_test ?_
  rcases nm with ⟨n1, n2, n3 | ⟨n3, n4, n5⟩⟩
  · exact ld_glob S n1 n3 ((PySem.W.exm_one g.inv.kIn look hb).here h) n2
  · exact ld_blt S n1 n3 n4 ((PySem.W.exm_one g.inv.kIn look hb).here h) n5 n2
theorem Got.unserved {Wout : WX} (g : Got X pl a B sI σ H cls d s) (tk : Takes X Wout) (w : Wout cls d σ H) : wpAny (model X.prog X.w) X.A (handleBy (.ref a) X.env []) (SP X pl D) X.xe s := by
  have thrown : wpAny (model X.prog X.w) X.A (setFlight (.ref a) X.env.frame) (fun _ s4 => wpAny (model X.prog X.w) X.A (throw (.ref a) : Sem Flow) (SP X pl D) X.xe s4) X.xe s := by
    rw [g.at_]
    exact HandSPX.setFlight_upZ g.fly fun h4 held u => wpAny_throw (tk _ _ ⟨a, B, sI, pl, σ, H, cls, d, rfl, g.old, g.nb, g.up.trans u, .inr (.inr (by rw [g.own]; exact held)), g.na, g.os, g.ag, w⟩)
  obtain ⟨_, _, _, oe, us, T, _, _, e1, _, e2, e3, _⟩ := id g.fly
  refine wpAny_handleBy_nil ?_
  unfold PySem.passOn
  refine wpAny_bind (wpAny_field e1 e2 e3 ?_)
  have nn : ¬ ((Value.ref T == Value.none) = true) := by simp
  rw [if_neg nn]
  first | exact wpAny_bind (wpAny_pure (wpAny_bind thrown)) | exact wpAny_bind thrown
theorem suite_end {q : Addr × Obj} {f : Flow} {s6 : Shared} (ok : X.Ok) (h : SP (X.suite a (q :: (X.pn ++ pl))) [] D f s6) : SP X pl D f s6 := by
  cases f with
  | ret u => exact let ⟨v, σ6, H6, S, r, k⟩ := h; ⟨v, σ6, H6, S.unsuite ok, r, k⟩
  | next => exact let ⟨σ6, H6, S, k⟩ := h; ⟨σ6, H6, S.unsuite ok, k⟩
  | brk => exact let ⟨σ6, H6, S, k⟩ := h; ⟨σ6, H6, S.unsuite ok, k⟩
  | cont => exact let ⟨σ6, H6, S, k⟩ := h; ⟨σ6, H6, S.unsuite ok, k⟩
theorem Got.runs {R : Result → Shared → Prop} (g : Got X pl a B sI σ H cls d s) (hsu : ∀ (a : Addr) (oe : Obj) (cls : Value) (d : Option Addr) (pn : List (Addr × Obj)), Zn cls d oe → (∃ vs, oe.data = .fields vs) → PSs (X.suite a ((a, oe) :: pn)) (b0 :: bs) (ts a cls d)) (w : ts a cls d D σ H) (h : ∀ f s6, SP X pl D f s6 → R (.ok f) s6) :
    codeAny (model X.prog X.w) (X.A.mark (some (.ref a))) (.handlers (.ref a) [.ExceptHandler none none (b0 :: bs) p2] X.env) R s := by
  refine codeAny_handlers_suite (HandSPX.lands_againZ g.fly fun h4 fl u => ?_)
  obtain ⟨oe, _, z, df, S⟩ := (g.move fl u).inSuite
  exact wpAny_mono ((hsu a oe cls d _ z df).run [] _ _ H _ S w) (fun f s6 q => h f s6 (suite_end g.inv.ok q)) fun _ _ z => z.elim
theorem Got.runsAs {R : Result → Shared → Prop} (g : Got X pl a B sI σ H cls d s) (hN : X.N.Nodup) (hi : X.N[i]? = some n) (hl : X.env.kindOf n = some .local) (hsu : ∀ (a : Addr) (oe : Obj) (cls : Value) (d : Option Addr) (pn : List (Addr × Obj)), Zn cls d oe → (∃ vs, oe.data = .fields vs) → PSs (X.suite a ((a, oe) :: pn)) (b0 :: bs) (ts a cls d))
    (w : ts a cls d (endsAt i D) (σ.set i (some (.ref a))) H) (h : ∀ f s6, wpAny (model X.prog X.w) X.A (do bindName X.env n .none; unbindBehindTheSuite X.env n p2) (fun _ s7 => SP X pl D f s7) X.xe s6 → R (.ok f) s6) :
    codeAny (model X.prog X.w) (X.A.mark (some (.ref a))) (.handlers (.ref a) [.ExceptHandler none (some n) (b0 :: bs) p2] X.env) R s := by
  refine codeAny_handlers_suite_as (HandSPX.lands_againZ g.fly fun h4 fl u => ?_)
  obtain ⟨oe, _, z, df, S⟩ := (g.move fl u).inSuite
  have at_ : Loc (X.suite a ((a, oe) :: (X.pn ++ pl))).env.scope n := .inl hl
  refine store_ok (X := X.suite a ((a, oe) :: (X.pn ++ pl))) (v := .ref a) (hx := at_) (hf := .inr hl) (hi := hi) (hN := hN) (r := rfl) S fun s5 S5 => ?_
  refine wpAny_mono ((hsu a oe cls d _ z df).run [] s5 _ H _ S5 w) (fun f s6 q => h f s6 ?_) fun _ _ z => z.elim
  have q := suite_end g.inv.ok q
  cases f with
  | ret u => exact let ⟨v, σ6, H6, J, r, k⟩ := q; gone_ok J hN hi hl fun s7 J7 => ⟨v, _, H6, J7, r, k⟩
  | next => exact let ⟨σ6, H6, J, k⟩ := q; gone_ok J hN hi hl fun s7 J7 => ⟨_, H6, J7, k⟩
  | brk => exact let ⟨σ6, H6, J, k⟩ := q; gone_ok J hN hi hl fun s7 J7 => ⟨_, H6, J7, k⟩
  | cont => exact let ⟨σ6, H6, J, k⟩ := q; gone_ok J hN hi hl fun s7 J7 => ⟨_, H6, J7, k⟩
theorem Got.all {Wout : WX} (tk : Takes X Wout) (hN : X.N.Nodup) {hds : List ExceptHandler} {l : List HdT} (hk : HdsN X hds l) : ∀ {s : Shared}, Got X pl a B sI σ H cls d s → wHds X.K Wout D l cls d σ H → wpAny (model X.prog X.w) X.A (handleBy (.ref a) X.env hds) (SP X pl D) X.xe s := by
  induction hk with
  | nil => exact fun g w => g.unserved tk w
  | cons nm hsu _ ih =>
    rintro s g ⟨b, hb, yes, no⟩
    refine wpAny_handleBy_cons (g.asked nm hb ?_) (by intro q; cases q)
    cases b with
    | true =>
      refine g.runs hsu (yes rfl a g.na) fun f s6 q => ?_
      exact q
    | false => exact ih g (no rfl)
  | consAs nm hi hl hsu _ ih =>
    rintro s g ⟨b, hb, yes, no⟩
    refine wpAny_handleBy_cons (g.asked nm hb ?_) (by intro q; cases q)
    cases b with
    | true =>
      refine g.runsAs hN hi hl hsu (yes rfl a g.na) fun f s6 q => ?_
      exact q
    | false => exact ih g (no rfl)
end
theorem ps_tryN (hs : X.stack = X.env :: X.outer) (hf : X.env.frame = some X.env.locals) (hN : X.N.Nodup) (tk : Takes X Wout)
    (hb : ∀ (W : WX) (pn : List (Addr × Obj)) (xe : Value → Shared → Prop), Takes (X.tr pn xe) W → PassesOwn (model X.prog X.w) X.A X.env xe → PSs (X.tr pn xe) body (tb W))
    (hh : HdsN X (h₀ :: hds) l) : PS X (.Try body (h₀ :: hds) [] [] pos) (fun D σ H => tb (wHds X.K Wout D l) D σ H) := by
  refine ⟨fun pl s σ H D I h => wpAny_Try_except ?_⟩
  have caught : ∀ (xe : Value → Shared → Prop) e s1, XE (X.tr (X.pn ++ pl) xe) (wHds X.K Wout D l) e s1 → wpAny (model X.prog X.w) X.A (noteFrame e X.env) (fun _ s2 => wpAny (model X.prog X.w) X.A (setFlight e none) (fun _ s3 => wpAny (model X.prog X.w) X.A (handleBy e X.env (h₀ :: hds)) (SP X pl D) X.xe s3) X.xe s2) X.xe s1 := by
    rintro xe _ s1 ⟨a, B, sI, p1, σ1, H1, cls, d, rfl, J, nb, up, sky, na, os, ag, w⟩
    have J := J.ofTry I.ok
    have fr : X.A.frames = some (X.env :: X.outer) := by rw [← hs]; exact I.ok.frames
    exact Sky.land Zn.steady fr hf (by rw [← hs]; exact sky) fun h3 fl u => Got.all tk hN hh ⟨hs, hf, J, nb, fl, up.trans u, na, os, ag⟩ w
  refine wpAny_mono ((hb _ (X.pn ++ pl) _ (fun e s1 h => caught _ e s1 h) PassesOwn.looking).run [] s σ H D (I.toTry _) h) (fun f s1 q => ?_) fun _ _ z => z
  cases f with
  | ret u => exact let ⟨v, σ6, H6, J, r, k⟩ := q; ⟨v, σ6, H6, J.ofTry I.ok, r, k⟩
  | next => exact let ⟨σ6, H6, J, k⟩ := q; wpAny_execs_nil ⟨σ6, H6, J.ofTry I.ok, k⟩
  | brk => exact let ⟨σ6, H6, J, k⟩ := q; ⟨σ6, H6, J.ofTry I.ok, k⟩
  | cont => exact let ⟨σ6, H6, J, k⟩ := q; ⟨σ6, H6, J.ofTry I.ok, k⟩
end
section
variable (K : PySem.W.Frag) (mg : Str → Option Value) (ea : EA) (Wx : WX)
def tsOf (m : Mo Fl) : TS := fun D σ H => ∃ io Fr s r s', Sim K mg ea io Fr s σ H ∧ m s = some (r, s') ∧
  (r = .ok .nx → ∀ σ' H' io', PostS K mg ea io Fr s σ H s' σ' io' H' → D.nx σ' H') ∧ (r = .ok .bk → ∀ σ' H' io', PostS K mg ea io Fr s σ H s' σ' io' H' → D.bk σ' H') ∧
  (r = .ok .ct → ∀ σ' H' io', PostS K mg ea io Fr s σ H s' σ' io' H' → D.ct σ' H') ∧ (∀ f, r = .ok (.rt f) → ∀ v H' io', PostF K mg io (Ms io Fr s σ) Fr H s'.G io' H' f v → D.rt v H') ∧
  (∀ x, r = .error x → ∀ cls d σ' H' io', PostX K mg ea io Fr s σ H s' σ' io' H' x cls d → Wx cls d σ' H')
end
theorem Pess.can {X : Cx} {ea : EA} {Wx : WX} {sts : List Stmt} {m : Mo Fl} (h : Pess X ea Wx sts m) : PSs X sts (tsOf X.K X.mg ea Wx m) := by
  obtain ⟨t, p, r⟩ := h.ex
  exact ⟨fun pins s σ H D I ⟨io, Fr, s1, r0, s', S0, e, h1, h2, h3, h4, h5⟩ => p.run pins s σ H D I (r σ H io Fr s1 S0 r0 s' e D h1 h2 h3 h4 h5)⟩
def noExc (r : List SV) : Bool := r.all fun x => match x with
  | .exc _ => false
  | _ => true
theorem noExc_get {r : List SV} {i : Nat} {x : Ex} (h : noExc r = true) : r[i]? ≠ some (.exc x) := fun e => by
  have := List.all_eq_true.mp h _ (List.mem_of_getElem? e)
  simp at this
structure Hd where
  tbl : List (Str × Bool)
  slot : Option Nat
  suite : Mo Fl
def runSuite (h : Hd) (x : Ex) : Mo Fl := fun s => if noExc s.r = true then match h.slot with
  | none => (match h.suite s with
    | some (.ok f, s') => if noExc s'.r = true then some (.ok f, s') else none
    | _ => none)
  | some i => (match h.suite { s with r := s.r.set i (.exc x) } with
    | some (.ok f, s') => if noExc (s'.r.set i .non) = true then some (.ok f, { s' with r := s'.r.set i .non }) else none
    | _ => none)
  else none
def handleM : List Hd → Ex → Mo Fl
  | [], x => raiseM x
  | h :: hs, x => fun s => match h.tbl.lookup x.nm with
    | none => none
    | some true => runSuite h x s
    | some false => handleM hs x s
def mTry (mb : Mo Fl) (hs : List Hd) : Mo Fl := fun s => match mb s with
  | none => none
  | some (.ok f, s') => some (.ok f, s')
  | some (.error x, s') => handleM hs x s'
section
variable {K : PySem.W.Frag} {mg : Str → Option Value} {ea ea' : EA} {io io' : List Addr} {Fr Fr' : Addr → Prop} {s s' s2 : S} {σ σ' : L2.St} {H H' : Hp} {w : W} {v : V} {c : Cell} {o : HO} {a p C : Addr} {ws : List W} {vs : List V} {M M' : Addr → Prop} {Wx : WX}
theorem Sim.toEA (x : Sim K mg ea io Fr s σ H) (h : noExc s.r = true) : Sim K mg ea' io Fr s σ H := ⟨x.len, x.g, x.val, x.own, x.dist, fun i y e => absurd e (noExc_get h)⟩
theorem Sim.setExc {i : Nat} {x : Ex} {cls : Value} {d : Option Addr} (y : Sim K mg ea io Fr s σ H) (h : noExc s.r = true) (e : ExR K mg io (Ms io Fr s σ) H x cls d) :
    Sim K mg ⟨a, cls, d⟩ io Fr { s with r := s.r.set i (.exc x) } (σ.set i (some (.ref a))) H ∧ (∀ b, Ms io Fr { s with r := s.r.set i (.exc x) } (σ.set i (some (.ref a))) b → Ms io Fr s σ b) := by
  have key : ∀ (j : Nat) (z : SV), (s.r.set i (.exc x))[j]? = some z → (∀ q, z ≠ .exc q) → i ≠ j ∧ s.r[j]? = some z := fun j z e n => by
    by_cases ij : i = j
    · subst ij
      have hi := get_lt e
      simp only [List.length_set] at hi
      rw [List.getElem?_set_self hi] at e
      cases e
      exact absurd rfl (n x)
    · rw [List.getElem?_set_ne ij] at e
      exact ⟨ij, e⟩
  have fo : ∀ b, FrO Fr (s.r.set i (.exc x)) (σ.set i (some (.ref a))) b → FrO Fr s.r σ b := fun b z => z.imp id fun ⟨j, c, h1, h2⟩ => by
    obtain ⟨ij, e⟩ := key j _ h1 (fun q => by intro z; cases z)
    rw [List.getElem?_set_ne ij] at h2
    exact ⟨j, c, e, h2⟩
  have le : ∀ b, Ms io Fr { s with r := s.r.set i (.exc x) } (σ.set i (some (.ref a))) b → Ms io Fr s σ b := fun b z => z.imp id (fo b)
  refine ⟨⟨by simp [y.len], y.g.less fo, fun j w q => ?_, fun j c q => ?_, fun j k c d b q1 q2 q3 q4 => ?_, fun j z q => ?_⟩, le⟩
  · obtain ⟨ij, q'⟩ := key j _ q (fun q => by intro z; cases z)
    obtain ⟨v, h1, h2⟩ := y.val j w q'
    exact ⟨v, by rw [List.getElem?_set_ne ij]; exact h1, h2.pers (.less le)⟩
  · obtain ⟨ij, q'⟩ := key j _ q (fun q => by intro z; cases z)
    obtain ⟨b, o, h1, h2, h3, h4⟩ := y.own j c q'
    exact ⟨b, o, by rw [List.getElem?_set_ne ij]; exact h1, h2, h3.pers (.less le), h4⟩
  · obtain ⟨ij, e1⟩ := key j _ q1 (fun q => by intro z; cases z)
    obtain ⟨ik, e2⟩ := key k _ q2 (fun q => by intro z; cases z)
    rw [List.getElem?_set_ne ij] at q3
    rw [List.getElem?_set_ne ik] at q4
    exact y.dist j k c d b e1 e2 q3 q4
  · by_cases ij : i = j
    · subst ij
      have hi := get_lt q
      simp only [List.length_set] at hi
      rw [List.getElem?_set_self hi] at q
      cases q
      exact ⟨List.getElem?_set_self (by rw [← y.len]; exact hi), e.pers (.less le)⟩
    · simp only at q
      rw [List.getElem?_set_ne ij] at q
      exact absurd q (noExc_get h)
inductive HdsM (K : PySem.W.Frag) (mg : Str → Option Value) : List HdT → List Hd → Prop
  | nil : HdsM K mg [] []
  | cons {c : Value} {os : Option Nat} {tbl : List (Str × Bool)} {m : Mo Fl} {l : List HdT} {hs : List Hd} (ht : ∀ nm b, tbl.lookup nm = some b → ∀ C, mg nm = some (.ref C) → PySem.W.exmOne K (.ref C) c = some b) (r : HdsM K mg l hs) :
      HdsM K mg ((c, os, fun a cls d => tsOf K mg ⟨a, cls, d⟩ W0 m) :: l) (⟨tbl, os, m⟩ :: hs)
theorem handle_ok {l : List HdT} {hs : List Hd} (h : HdsM K mg l hs) : ∀ {x : Ex} {s0 : S} {σ0 : L2.St} {H0 : Hp} {io0 : List Addr} {cls : Value} {d : Option Addr} {r : Except Ex Fl}, PostX K mg ea io0 Fr s0 σ0 H0 s σ io H x cls d → handleM hs x s = some (r, s') → ∀ D : Ends,
    (r = .ok .nx → ∀ σ' H' io', PostS K mg ea io0 Fr s0 σ0 H0 s' σ' io' H' → D.nx σ' H') → (r = .ok .bk → ∀ σ' H' io', PostS K mg ea io0 Fr s0 σ0 H0 s' σ' io' H' → D.bk σ' H') →
    (r = .ok .ct → ∀ σ' H' io', PostS K mg ea io0 Fr s0 σ0 H0 s' σ' io' H' → D.ct σ' H') → (∀ f, r = .ok (.rt f) → ∀ v H' io', PostF K mg io0 (Ms io0 Fr s0 σ0) Fr H0 s'.G io' H' f v → D.rt v H') →
    (∀ x, r = .error x → ∀ cls d σ' H' io', PostX K mg ea io0 Fr s0 σ0 H0 s' σ' io' H' x cls d → Wx cls d σ' H') → wHds K Wx D l cls d σ H := by
  induction h with
  | nil =>
    intro x s0 σ0 H0 io0 cls d r p e D h1 h2 h3 h4 h5
    cases e
    exact h5 x rfl cls d σ H io p
  | @cons c os tbl m l hs ht r0 ih =>
    intro x s0 σ0 H0 io0 cls d r p e D h1 h2 h3 h4 h5
    unfold handleM at e
    obtain ⟨S1, T1, C, hm, rfl, hd⟩ := id p
    split at e
    · cases e
    · rename_i hl
      have hx := ht _ _ hl C hm
      unfold runSuite at e
      split at e
      · rename_i hne
        cases os with
        | none =>
          refine ⟨true, hx, fun _ a ha => ?_, fun z => by cases z⟩
          simp only at e
          split at e
          · rename_i f s2 k
            split at e
            · rename_i hn2
              cases e
              refine ⟨io, Fr, s, _, _, S1.toEA hne, k, fun q σ' H' io' p2 => ?_, fun q σ' H' io' p2 => ?_, fun q σ' H' io' p2 => ?_, fun f' q v H' io' p2 => ?_, fun x q => by cases q⟩
              · exact h1 q σ' H' io' ⟨p2.1.toEA hn2, T1.trans p2.2⟩
              · exact h2 q σ' H' io' ⟨p2.1.toEA hn2, T1.trans p2.2⟩
              · exact h3 q σ' H' io' ⟨p2.1.toEA hn2, T1.trans p2.2⟩
              · exact h4 f' q v H' io' (p2.trans T1)
            · cases e
          · cases e
        | some i =>
          refine ⟨true, hx, fun _ a ha => ?_, fun z => by cases z⟩
          simp only at e
          split at e
          · rename_i f s2 k
            split at e
            · rename_i hn2
              cases e
              obtain ⟨S2, l2⟩ := S1.setExc (a := a) (i := i) hne p.2.2
              have T2 : Stp io0 (Ms io0 Fr s0 σ0) Fr H0 io (Ms io Fr { s with r := s.r.set i (.exc x) } (σ.set i (some (.ref a)))) H := T1.less l2
              have back : ∀ {σ' : L2.St} {H' : Hp} {io' : List Addr}, PostS K mg ⟨a, .ref C, d⟩ io Fr { s with r := s.r.set i (.exc x) } (σ.set i (some (.ref a))) H s2 σ' io' H' → PostS K mg ea io0 Fr s0 σ0 H0 { s2 with r := s2.r.set i .non } (σ'.set i none) io' H' := fun {σ' H' io'} p2 => by
                obtain ⟨S3, l3⟩ := p2.1.drop1 (i := i) (u := none)
                exact ⟨S3.toEA hn2, (T2.trans p2.2).less l3⟩
              refine ⟨io, Fr, _, _, _, S2, k, fun q σ' H' io' p2 => ?_, fun q σ' H' io' p2 => ?_, fun q σ' H' io' p2 => ?_, fun f' q v H' io' p2 => ?_, fun x q => by cases q⟩
              · exact h1 q _ H' io' (back p2)
              · exact h2 q _ H' io' (back p2)
              · exact h3 q _ H' io' (back p2)
              · exact h4 f' q v H' io' (p2.trans T2)
            · cases e
          · cases e
      · cases e
    · rename_i hl
      have hx := ht _ _ hl C hm
      have := ih p e D h1 h2 h3 h4 h5
      cases os with
      | none => exact ⟨false, hx, ⟨fun z => (by cases z), fun _ => this⟩⟩
      | some i => exact ⟨false, hx, ⟨fun z => (by cases z), fun _ => this⟩⟩
theorem ref_try {l : List HdT} {hs : List Hd} {mb : Mo Fl} (h : HdsM K mg l hs) : RefS K mg ea Wx (fun D σ H => (fun W => tsOf K mg ea W mb) (wHds K Wx D l) D σ H) (mTry mb hs) := by
  intro σ H io Fr s S0 r0 s' e D hnx hbk hct hrt hex
  unfold mTry at e
  split at e
  · cases e
  · rename_i f s1 k
    cases e
    exact ⟨io, Fr, s, _, _, S0, k, hnx, hbk, hct, hrt, fun x q => by cases q⟩
  · rename_i x s1 k
    refine ⟨io, Fr, s, _, _, S0, k, fun q => (by cases q), fun q => (by cases q), fun q => (by cases q), fun _ q => (by cases q), fun x' q cls d σ' H' io' p => ?_⟩
    cases q
    exact handle_ok h p e D hnx hbk hct hrt hex
end
section
variable {X : Cx} {ea : EA} {Wx : WX} {body : List Stmt} {h₀ : ExceptHandler} {hds : List ExceptHandler} {pos : Pos} {mb : Mo Fl}
structure PHds (X : Cx) (hds : List ExceptHandler) (hs : List Hd) : Prop where
  ex : ∃ l, HdsN X hds l ∧ HdsM X.K X.mg l hs
theorem phds_nil : PHds X [] [] := ⟨[], .nil, .nil⟩
variable {x n : Str} {c : Value} {i : Nat} {b₀ : Stmt} {suite : List Stmt} {np pos' : Pos} {hs : List Hd} {tbl : List (Str × Bool)} {m : Mo Fl}
theorem phds_as (i : Nat) (hc : Names X x c) (ht : ∀ nm b, tbl.lookup nm = some b → ∀ C, X.mg nm = some (.ref C) → PySem.W.exmOne X.K (.ref C) c = some b)
    (hsu : ∀ (a : Addr) (oe : Obj) (cls : Value) (d : Option Addr) (pn : List (Addr × Obj)), Zn cls d oe → (∃ vs, oe.data = .fields vs) → Pess (X.suite a ((a, oe) :: pn)) ⟨a, cls, d⟩ W0 (b₀ :: suite) m) (r : PHds X hds hs)
    (hi : X.N[i]? = some n := by rfl) (hln : X.env.kindOf n = some .local := by rfl) :
    PHds X (.ExceptHandler (some (.Name x np)) (some n) (b₀ :: suite) pos' :: hds) (⟨tbl, some i, m⟩ :: hs) :=
  let ⟨_, h1, h2⟩ := r.ex; ⟨_, .consAs hc hi hln (fun a oe cls d pn hz hf => (hsu a oe cls d pn hz hf).can) h1, .cons ht h2⟩
theorem pes_try (hN : X.N.Nodup) (tk : Takes X Wx) (hb : ∀ (W : WX) (pn : List (Addr × Obj)) (xe : Value → Shared → Prop), Takes (X.tr pn xe) W → PassesOwn (model X.prog X.w) X.A X.env xe → Pess (X.tr pn xe) ea W body mb)
    (hh : PHds X (h₀ :: hds) hs) (h1 : X.stack = X.env :: X.outer := by rfl) (h2 : X.env.frame = some X.env.locals := by rfl) : Pes X ea Wx (.Try body (h₀ :: hds) [] [] pos) (mTry mb hs) :=
  let ⟨_, p, q⟩ := hh.ex; ⟨_, ps_tryN (tb := fun W => tsOf X.K X.mg ea W mb) h1 h2 hN tk (fun W pn xe t pa => (hb W pn xe t pa).can) p, ref_try q⟩
end
end Z
set_option Elab.async false
set_option linter.all false
set_option maxRecDepth 100000
namespace Z
open PySem PySem.Spec PyProof.Rows
open L2 hiding XE Takes CX takes_of passes_call passAt MkP PMk ps_raise mk_of ps_try_as ps_try_many pmk_own Takes.imp
open L2N
section
variable {K : PySem.W.Frag} {mg : Str → Option Value} {ea : EA} {io io' : List Addr} {Fr Fr' : Addr → Prop} {s s' s2 : S} {σ σ' : L2.St} {H H' : Hp} {w : W} {v : V} {c c' : Cell} {o o' : HO} {a p C : Addr} {ws : List W} {vs : List V} {M M' : Addr → Prop} {Wx : WX}
theorem fro_own {i : Nat} (e : s.r[i]? = some (.own c)) : ∀ b, FrO Fr (s.r.set i (.own c')) σ b ↔ FrO Fr s.r σ b := by
  have hi := get_lt e
  intro b
  constructor
  · rintro (z | ⟨j, d, h1, h2⟩)
    · exact .inl z
    · by_cases ij : i = j
      · subst ij; exact .inr ⟨i, c, e, h2⟩
      · rw [List.getElem?_set_ne ij] at h1; exact .inr ⟨j, d, h1, h2⟩
  · rintro (z | ⟨j, d, h1, h2⟩)
    · exact .inl z
    · by_cases ij : i = j
      · subst ij; exact .inr ⟨i, c', List.getElem?_set_self hi, h2⟩
      · exact .inr ⟨j, d, by rw [List.getElem?_set_ne ij]; exact h1, h2⟩
theorem ms_own {i : Nat} (e : s.r[i]? = some (.own c)) : ∀ b, Ms io Fr { s with r := s.r.set i (.own c') } σ b ↔ Ms io Fr s σ b := fun b => by
  constructor
  · exact fun z => z.imp id (fro_own e b).1
  · exact fun z => z.imp id (fro_own e b).2
theorem Sim.setOwnCell {i : Nat} (x : Sim K mg ea io Fr s σ H) (e : s.r[i]? = some (.own c)) (hs : σ[i]? = some (some (V.ref a))) (h : ∀ {H' : Hp}, Pers io (Ms io Fr s σ) H io (Ms io Fr s σ) H' → Rc K mg io (Ms io Fr s σ) H' c' o') :
    Sim K mg ea io Fr { s with r := s.r.set i (.own c') } σ (upd H a o') ∧ Stp io (Ms io Fr s σ) Fr H io (Ms io Fr { s with r := s.r.set i (.own c') } σ) (upd H a o') := by
  have hi := get_lt e
  obtain ⟨a0, o0, k1, k2, k3, k4⟩ := x.own i c e
  rw [hs] at k1; cases k1
  have aF : FrO Fr s.r σ a := .inr ⟨i, c, e, hs⟩
  have aM : Ms io Fr s σ a := .inr aF
  have nio : a ∉ io := fun z => x.g.dj a z aF
  have q : Pers io (Ms io Fr s σ) H io (Ms io Fr s σ) (upd H a o') := ⟨fun b u e hb => by rw [upd_ne (fun z => by subst z; exact hb aM)]; exact e, fun b z => .inl z, fun _ _ e => e⟩
  have le : ∀ b, Ms io Fr { s with r := s.r.set i (.own c') } σ b → Ms io Fr s σ b := fun b z => (ms_own e b).1 z
  have q' : Pers io (Ms io Fr s σ) H io (Ms io Fr { s with r := s.r.set i (.own c') } σ) (upd H a o') := ⟨q.keep, fun b z => .inl (le b z), q.ext⟩
  refine ⟨⟨by simpa using x.len, ⟨x.g.len, fun m b d h1 h2 => ?_, x.g.nd, fun b z => fun t => x.g.dj b z ((fro_own e b).1 t), fun b z => ?_⟩, fun j u t => ?_, fun j d t => ?_, fun j k d d' b t1 t2 t3 t4 => ?_, fun j y t => ?_⟩, q', fun b z => ?_, fun b u t => ?_⟩
  · obtain ⟨u, t, r⟩ := x.g.cell m b d h1 h2
    have nb : b ≠ a := fun z => by
      subst z
      exact nio (List.mem_of_getElem? h1)
    exact ⟨u, by rw [upd_ne nb]; exact t, r.pers q'⟩
  · by_cases ba : b = a
    · exact ⟨o', by rw [ba, upd_same], (h q).nt⟩
    · obtain ⟨u, t, n⟩ := x.g.fr b ((fro_own e b).1 z)
      exact ⟨u, by rw [upd_ne ba]; exact t, n⟩
  · by_cases ij : i = j
    · subst ij
      rw [show ({ s with r := s.r.set i (.own c') } : S).r = s.r.set i (.own c') from rfl, List.getElem?_set_self hi] at t
      cases t
    · rw [show ({ s with r := s.r.set i (.own c') } : S).r = s.r.set i (.own c') from rfl, List.getElem?_set_ne ij] at t
      obtain ⟨v, h1, h2⟩ := x.val j u t
      exact ⟨v, h1, h2.pers q'⟩
  · by_cases ij : i = j
    · subst ij
      rw [show ({ s with r := s.r.set i (.own c') } : S).r = s.r.set i (.own c') from rfl, List.getElem?_set_self hi] at t
      cases t
      exact ⟨a, o', hs, upd_same, (h q).pers (.less le), k4⟩
    · rw [show ({ s with r := s.r.set i (.own c') } : S).r = s.r.set i (.own c') from rfl, List.getElem?_set_ne ij] at t
      obtain ⟨b, u, h1, h2, h3, h4⟩ := x.own j d t
      have ba : b ≠ a := fun z => by
        subst z
        exact ij (x.dist i j c d b e t hs h1)
      exact ⟨b, u, h1, by rw [upd_ne ba]; exact h2, h3.pers q', h4⟩
  · have key : ∀ (j : Nat) (d : Cell), (s.r.set i (.own c'))[j]? = some (.own d) → ∃ d0, s.r[j]? = some (.own d0) := fun j d t => by
      by_cases ij : i = j
      · subst ij; exact ⟨c, e⟩
      · rw [List.getElem?_set_ne ij] at t; exact ⟨d, t⟩
    obtain ⟨d1, y1⟩ := key j d t1
    obtain ⟨d2, y2⟩ := key k d' t2
    exact x.dist j k d1 d2 b y1 y2 t3 t4
  · by_cases ij : i = j
    · subst ij
      rw [show ({ s with r := s.r.set i (.own c') } : S).r = s.r.set i (.own c') from rfl, List.getElem?_set_self hi] at t
      cases t
    · rw [show ({ s with r := s.r.set i (.own c') } : S).r = s.r.set i (.own c') from rfl, List.getElem?_set_ne ij] at t
      obtain ⟨h1, h2⟩ := x.exc j y t
      exact ⟨h1, h2.pers q'⟩
  · rw [upd_ne (fun t => by subst t; exact k4 z)]
  · by_cases ba : b = a
    · exact ⟨o', by rw [ba, upd_same]⟩
    · exact ⟨u, by rw [upd_ne ba]; exact t⟩
def cellAt (s : S) : RV → Option Cell
  | .hnd i => match s.r[i]? with
    | some (.own c) => some c
    | some (.val (.ref n)) => s.G[n]?
    | _ => none
  | .val (.ref n) => s.G[n]?
  | _ => none
def putAt (s : S) (c : Cell) : RV → S
  | .hnd i => match s.r[i]? with
    | some (.own _) => { s with r := s.r.set i (.own c) }
    | some (.val (.ref n)) => { s with G := s.G.set n c }
    | _ => s
  | .val (.ref n) => { s with G := s.G.set n c }
  | _ => s
theorem cell_ok (S0 : Sim K mg ea io Fr s σ H) {x : RV} (h : RvR K mg io (Ms io Fr s σ) σ H x v) (e : cellAt s x = some c) : ∃ a o, v = .ref a ∧ H a = some o ∧ Ms io Fr s σ a ∧ Rc K mg io (Ms io Fr s σ) H c o ∧
    ∀ c' o', (∀ {H' : Hp}, Pers io (Ms io Fr s σ) H io (Ms io Fr s σ) H' → Rc K mg io (Ms io Fr s σ) H' c' o') → Sim K mg ea io Fr (putAt s c' x) σ (upd H a o') ∧ Stp io (Ms io Fr s σ) Fr H io (Ms io Fr (putAt s c' x) σ) (upd H a o') ∧ (∀ b, Ms io Fr (putAt s c' x) σ b ↔ Ms io Fr s σ b) := by
  have viaRef : ∀ {n : Nat}, Rw K mg io (Ms io Fr s σ) H (.ref n) v → s.G[n]? = some c → ∃ a o, v = .ref a ∧ H a = some o ∧ Ms io Fr s σ a ∧ Rc K mg io (Ms io Fr s σ) H c o ∧
    ∀ c' o', (∀ {H' : Hp}, Pers io (Ms io Fr s σ) H io (Ms io Fr s σ) H' → Rc K mg io (Ms io Fr s σ) H' c' o') → Sim K mg ea io Fr { s with G := s.G.set n c' } σ (upd H a o') ∧ Stp io (Ms io Fr s σ) Fr H io (Ms io Fr { s with G := s.G.set n c' } σ) (upd H a o') ∧ (∀ b, Ms io Fr { s with G := s.G.set n c' } σ b ↔ Ms io Fr s σ b) := by
    intro n hr hg
    cases hr with
    | ref hn =>
      rename_i a
      obtain ⟨o, ho, hc⟩ := S0.g.cell n a c hn hg
      refine ⟨a, o, rfl, ho, .inl (List.mem_of_getElem? hn), hc, fun c' o' f => ?_⟩
      obtain ⟨S1, T1⟩ := S0.setCell hn f
      exact ⟨S1, T1, fun b => Iff.rfl⟩
  cases x with
  | own c => exact h.elim
  | val w =>
    cases w with
    | ref n => exact viaRef h e
    | _ => cases e
  | hnd i =>
    have h' : σ[i]? = some (some v) := h
    simp only [cellAt] at e
    split at e
    · rename_i c0 q
      cases e
      obtain ⟨a, o, h1, h2, h3, h4⟩ := S0.own i _ q
      rw [h'] at h1
      cases h1
      refine ⟨a, o, rfl, h2, .inr (.inr ⟨i, _, q, h'⟩), h3, fun c' o' f => ?_⟩
      obtain ⟨S1, T1⟩ := S0.setOwnCell q h' f
      have ep : putAt s c' (.hnd i) = { s with r := s.r.set i (.own c') } := by simp only [putAt, q]
      rw [ep]
      exact ⟨S1, T1, fun b => ms_own q b⟩
    · rename_i n q
      obtain ⟨u, h1, h2⟩ := S0.val i _ q
      rw [h'] at h1
      cases h1
      obtain ⟨a, o, k1, k2, k3, k4, k5⟩ := viaRef h2 e
      refine ⟨a, o, k1, k2, k3, k4, fun c' o' f => ?_⟩
      have ep : putAt s c' (.hnd i) = { s with G := s.G.set n c' } := by simp only [putAt, q]
      rw [ep]
      exact k5 c' o' f
    · cases e
def MutR (K : PySem.W.Frag) (mg : Str → Option Value) (r : V → List V → Hp → VK → Prop) (f : Cell → List W → Option (W × Cell)) : Prop :=
  ∀ io M H a o c ws vs w c' Q, H a = some o → Rc K mg io M H c o → Rws K mg io M H ws vs → f c ws = some (w, c') → M a →
    (∀ o' v, (∀ {H' : Hp}, Pers io M H io M H' → Rc K mg io M H' c' o') → Rw K mg io M H w v → Q v (upd H a o')) → r (.ref a) vs H Q
inductive CK where
  | lst
  | dict
def CK.ty : CK → String
  | .lst => "list"
  | .dict => "dict"
def CK.fits : CK → Cell → Bool
  | .lst, .lst _ => true
  | .dict, .dK _ => true
  | .dict, .dT _ => true
  | _, _ => false
theorem fits_ty {k : CK} (h : k.fits c = true) (ha : H a = some o) (r : Rc K mg io M H c o) : tyV K k.ty (.ref a) H := by
  cases k <;> cases c <;> simp [CK.fits] at h
  · obtain ⟨vs, rfl, _⟩ := r
    exact .inl ⟨rfl, vs, .inl (.inl ha)⟩
  · obtain ⟨vs, rfl, _⟩ := r
    exact .inr (.inr (.inl ⟨rfl, .inl ⟨vs, ha⟩⟩))
  · obtain ⟨vs, rfl, _⟩ := r
    exact .inr (.inr (.inl ⟨rfl, .inr ⟨vs, ha⟩⟩))
def mMut (k : CK) (f : Cell → List W → Option (W × Cell)) (mo : Mo RV) (ms : Mo (List RV)) : Mo RV := bnd mo fun x s => if ((cellAt s (settle x)).map k.fits) = some true then (bnd ms fun xs => bnd (freezeAll xs) fun ws s2 => match cellAt s2 (settle x) with
  | some c => (match f c ws with
    | some (w, c') => some (.ok (.val w), putAt s2 c' (settle x))
    | none => none)
  | none => none) s else none
theorem ref_mut {k : CK} {f : Cell → List W → Option (W × Cell)} {r : V → List V → Hp → VK → Prop} (hr : MutR K mg r f) {ta : TE} {t : TA} {mo : Mo RV} {ms : Mo (List RV)} (ho : RefE K mg ea Wx ta mo) (ha : RefA K mg ea Wx t ms) :
    RefE K mg ea Wx (tBM K k.ty r ta t) (mMut k f mo ms) := by
  intro σ H io Fr s S0 r0 s' e Q hok hex
  refine one2 ho S0 e hex fun x vx s1 H1 io1 e2 px => ?_
  obtain ⟨S1, T1, R1⟩ := px.settled
  split at e2
  · rename_i hc
    obtain ⟨c1, h1, h2⟩ := Option.map_eq_some_iff.mp hc
    obtain ⟨a, o, rfl, hH, hM, hR, _⟩ := cell_ok S1 R1 h1
    refine ⟨fits_ty h2 hH hR, ?_⟩
    refine arg2 ha S1 e2 (fun x q cls d H' io' p => hex x q cls d H' io' ⟨p.1, T1.trans p.2.1, p.2.2⟩) fun xs vs s4 H4 io4 e7 p4 R4 => ?_
    rcases bnd_some e7 with ⟨x, e8, rfl⟩ | ⟨ws, s5, e8, e9⟩
    · obtain ⟨_, _, _, _, q, _⟩ := freezeAll_ok p4.1 R4 e8
      cases q
    · obtain ⟨_, m5, S5, ws', q, r5⟩ := freezeAll_ok p4.1 R4 e8
      cases q
      have T5 := (T1.trans p4.2).less m5
      have R5 := RvR.pers ⟨fun _ _ h _ => h, fun a z => .inl (m5 a z), fun _ _ h => h⟩ (RvR.pers p4.2.p R1)
      split at e9
      · rename_i c5 hc5
        split at e9
        · rename_i w c' hf
          obtain ⟨a', o', h1, h2, h3, h4, h5⟩ := cell_ok S5 R5 hc5
          cases h1
          refine hr io4 _ H4 a o' c5 _ vs w c' Q h2 h4 r5 hf h3 fun o2 v f2 rw2 => ?_
          obtain ⟨S6, T6, m6⟩ := h5 c' o2 f2
          cases e9
          exact hok _ rfl v _ io4 ⟨S6, T5.trans T6, rw2.pers T6.p⟩
        · cases e9
      · cases e9
  · cases e2
theorem sz_le {n : Nat} (h : n ≤ sz) : n ≤ sizeLine := by rw [sizeLine_eq]; exact h
def fAppend : Cell → List W → Option (W × Cell)
  | .lst ws, [w] => if ws.length < sz then some (.non, .lst (ws ++ [w])) else none
  | _, _ => none
theorem mu_append : MutR K mg rAppend fAppend := by
  intro io M H a o c ws vs w c' Q ha hR hw e hM q
  unfold fAppend at e
  split at e
  · rename_i xs y
    split at e
    · rename_i hz
      cases e
      obtain ⟨us, rfl, r⟩ := hR
      obtain ⟨v, rest, rfl, h1, h2⟩ := hw.cons_inv
      have := h2.nil_inv
      subst this
      refine ⟨a, us, v, rfl, rfl, ha, ?_, q _ .non (fun {H'} p => ⟨_, rfl, (r.pers p).append (Rws.one (h1.pers p))⟩) .non⟩
      rw [← r.1, sizeLine_eq]; exact hz
    · cases e
  · cases e
def fInsert : Cell → List W → Option (W × Cell)
  | .lst ws, [.int i, w] => if ws.length < sz ∧ 0 ≤ i ∧ i < 2 ^ 63 then some (.non, .lst (ws.take i.toNat ++ [w] ++ ws.drop i.toNat)) else none
  | _, _ => none
theorem mu_insert : MutR K mg (fun x vs H Q => ∃ (l : Addr) (xs : List V) (i : Int) (y : V), x = .ref l ∧ vs = [.int i, y] ∧ H l = some (.lst xs) ∧ xs.length < sizeLine ∧ 0 ≤ i ∧ i < 2 ^ 63 ∧
    Q .non (upd H l (.lst (xs.take i.toNat ++ [y] ++ xs.drop i.toNat)))) fInsert := by
  intro io M H a o c ws vs w c' Q ha hR hw e hM q
  unfold fInsert at e
  split at e
  · rename_i xs i y
    split at e
    · rename_i hz
      cases e
      obtain ⟨us, rfl, r⟩ := hR
      obtain ⟨v, rest, rfl, h1, h2⟩ := hw.cons_inv
      obtain ⟨v2, rest2, rfl, h3, h4⟩ := h2.cons_inv
      have := h4.nil_inv
      subst this
      cases h1
      refine ⟨a, us, i, v2, rfl, rfl, ha, ?_, hz.2.1, hz.2.2, q _ .non (fun {H'} p => ⟨_, rfl, (((r.pers p).take _).append (Rws.one (h3.pers p))).append ((r.pers p).drop _)⟩) .non⟩
      rw [← r.1, sizeLine_eq]; exact hz.1
    · cases e
  · cases e
theorem Rws.erase (h : Rws K mg io M H ws vs) (i : Nat) : Rws K mg io M H (ws.eraseIdx i) (vs.eraseIdx i) := by
  rw [List.eraseIdx_eq_take_drop_succ, List.eraseIdx_eq_take_drop_succ]
  exact (h.take i).append (h.drop (i + 1))
def fPop : Cell → List W → Option (W × Cell)
  | .lst ws, [.int i] => if -(2 ^ 63) ≤ i ∧ i < 2 ^ 63 then (match ixN ws.length i with
    | some j => (match ws[j]? with
      | some w => some (w, .lst (ws.eraseIdx j))
      | none => none)
    | none => none) else none
  | _, _ => none
theorem mu_pop : MutR K mg rPopAt fPop := by
  intro io M H a o c ws vs w c' Q ha hR hw e hM q
  unfold fPop at e
  split at e
  · rename_i xs i
    split at e
    · rename_i hz
      split at e
      · rename_i j hj
        split at e
        · rename_i u hu
          cases e
          obtain ⟨us, rfl, r⟩ := hR
          obtain ⟨v, rest, rfl, h1, h2⟩ := hw.cons_inv
          have := h2.nil_inv
          subst this
          cases h1
          obtain ⟨y, hy, ry⟩ := r.get hu
          obtain ⟨k1, _⟩ := ixN_seq hj
          refine ⟨a, us, i, j, y, rfl, rfl, ha, hz.1, hz.2, by rw [← r.1]; exact k1, hy, q _ y (fun {H'} p => ⟨_, rfl, (r.pers p).erase j⟩) ry⟩
        · cases e
      · cases e
    · cases e
  · cases e
end
abbrev FewArgs (X : Cx) (at_ : Pos) (args : List Expr) : Prop :=
  (((backTo at_ (starEach args X.env)).all fun x => !x.1) && ((backToKw at_ (keywordEach [] X.env)).all fun x => x.1.isSome) && decide (args.length + ([] : List Keyword).length + (if ([] : List Keyword).isEmpty then 0 else 1) < 30)) = true
section
variable {X : Cx} {ea : EA} {Wx : WX} {e o : Expr} {es : List Expr} {mo mv : Mo RV} {ms : Mo (List RV)} {p pos apos cpos tpos : Pos} {name : Str} {id : String} {r : V → List V → Hp → VK → Prop} {f : Cell → List W → Option (W × Cell)} {k : CK}
theorem pee_mut (pa : PlainAttrs k.ty) (slot : Slot k.ty name id) (hty : typeOf (.builtin id) = pure (.type "method_descriptor")) (hm : MtR X id r) (hf : MutR X.K X.mg r f) (ho : Pee X ea Wx o mo) (ha : Pea X ea Wx (e :: es) ms)
    (hbase : attributeBase o name X.env (eval o X.env) = eval o X.env := by rfl)
    (hfew : FewArgs X cpos (e :: es) := by rfl)
    (hs : starEach (e :: es) X.env = (false, eval e X.env) :: starEach es X.env := by rfl) (hline : (apos.endLine == cpos.line) = true := by rfl) (hplain : (backTo cpos (starEach es X.env)).any (·.1) = false := by rfl) :
    Pee X ea Wx (.Call (.Attribute o name apos) (e :: es) [] cpos) (mMut k f mo ms) := by
  obtain ⟨t, q, rr⟩ := ho.ex
  obtain ⟨t', q', rr'⟩ := ha.ex
  exact ⟨_, pe_bm pa slot hty hm q q' hbase hfew hline hs hplain, ref_mut hf rr rr'⟩
end
end Z
set_option Elab.async false
set_option linter.all false
set_option maxRecDepth 100000
namespace Z
open PySem PySem.Spec PyProof.Rows
open L2 hiding XE Takes CX takes_of passes_call passAt MkP PMk ps_raise mk_of ps_try_as ps_try_many pmk_own Takes.imp
open L2N
section
variable {K : PySem.W.Frag} {mg : Str → Option Value} {ea : EA} {io io' : List Addr} {Fr Fr' : Addr → Prop} {s s' s2 : S} {σ σ' : L2.St} {H H' : Hp} {w : W} {v : V} {c c' : Cell} {o o' : HO} {a p C : Addr} {ws : List W} {vs : List V} {M M' : Addr → Prop} {Wx : WX}
theorem PSet.or {X : Cx} {r r' : TSet} (h : PSet X r) (h' : PSet X r') : PSet X (fun o i v H Q => r o i v H Q ∨ r' o i v H Q) := by
  intro pins s σ H o i v ov iv u Q I ro ri rv q
  rcases q with q | q
  · exact h pins s σ H o i v ov iv u Q I ro ri rv q
  · exact h' pins s σ H o i v ov iv u Q I ro ri rv q
def putW {κ : Type} [DecidableEq κ] (kvs : List (κ × W)) (k : κ) (w : W) : List (κ × W) := if (kvs.any fun kv => decide (kv.1 = k)) = true then kvs.map fun kv => if kv.1 = k then (kv.1, w) else kv else kvs ++ [(k, w)]
theorem Rkv.any {κ : Type} [DecidableEq κ] {k : κ} : ∀ {ws : List (κ × W)} {vs : List (κ × V)}, Rkv K mg io M H ws vs → (ws.any fun kv => decide (kv.1 = k)) = (vs.any fun kv => decide (kv.1 = k))
  | [], vs, h => by rw [h.nil_inv]; rfl
  | (k', w) :: ws, vs, h => by
    obtain ⟨v, r, rfl, h1, h2⟩ := h.cons_inv
    simp only [List.any_cons]
    rw [Rkv.any h2]
theorem Rkv.repl {κ : Type} [DecidableEq κ] {k : κ} (hw : Rw K mg io M H w v) : ∀ {ws : List (κ × W)} {vs : List (κ × V)}, Rkv K mg io M H ws vs → Rkv K mg io M H (ws.map fun kv => if kv.1 = k then (kv.1, w) else kv) (vs.map fun kv => if kv.1 = k then (kv.1, v) else kv)
  | [], vs, h => by rw [h.nil_inv]; exact Rkv.nil
  | (k', w') :: ws, vs, h => by
    obtain ⟨u, r, rfl, h1, h2⟩ := h.cons_inv
    simp only [List.map_cons]
    by_cases e : k' = k
    · rw [if_pos e, if_pos e]; exact Rkv.cons hw (Rkv.repl hw h2)
    · rw [if_neg e, if_neg e]; exact Rkv.cons h1 (Rkv.repl hw h2)
theorem Rkv.put {κ : Type} [DecidableEq κ] {k : κ} (hw : Rw K mg io M H w v) {ws : List (κ × W)} {vs : List (κ × V)} (h : Rkv K mg io M H ws vs) : Rkv K mg io M H (putW ws k w) (putK vs k v) := by
  unfold putW putK
  rw [Rkv.any h]
  split
  · exact h.repl hw
  · exact h.append (Rkv.cons hw Rkv.nil)
def RefO (K : PySem.W.Frag) (mg : Str → Option Value) (ea : EA) (Wx : WX) (t : TO) (m : Mo (Option Int)) : Prop := ∀ (σ : L2.St) (H : Hp) (io : List Addr) (Fr : Addr → Prop) (s : S), Sim K mg ea io Fr s σ H → ∀ r s', m s = some (r, s') → ∀ Q : Option Int → Hp → Prop,
  (∀ b, r = .ok b → ∀ H' io', PostS K mg ea io Fr s σ H s' σ io' H' → Q b H') → (∀ x, r = .error x → ∀ cls d H' io', PostX K mg ea io Fr s σ H s' σ io' H' x cls d → Wx cls d σ H') → t σ H Q
def toI : RV → Mo (Option Int)
  | .val (.int i) => ret (some i)
  | _ => stk
def mPart (m : Mo RV) : Mo (Option Int) := bnd m toI
theorem ref_part {t : TE} {m : Mo RV} (h : RefE K mg ea Wx t m) : RefO K mg ea Wx (tPart t) (mPart m) := by
  intro σ H io Fr s S0 r s' e Q hok hex
  refine one2 h S0 e hex fun x v s1 H1 io1 e2 px => ?_
  unfold toI at e2
  split at e2
  · rename_i i
    cases e2
    obtain ⟨S1, T1, R1⟩ := px
    cases R1
    exact ⟨i, rfl, hok _ rfl H1 io1 ⟨S1, T1⟩⟩
  · cases e2
def cutW {α : Type} (xs : List α) (lo hi : Option Int) : List α := (xs.drop (HT.sIx xs.length 0 lo)).take (HT.sIx xs.length xs.length hi - HT.sIx xs.length 0 lo)
theorem Rws.cut (h : Rws K mg io M H ws vs) (lo hi : Option Int) : Rws K mg io M H (cutW ws lo hi) (cutV vs lo hi) := by
  unfold cutW cutV
  rw [h.1]
  exact (h.drop _).take _
def fSl : W → Option Int → Option Int → Option OR
  | .lst ws, lo, hi => some (.newl (cutW ws lo hi))
  | .frl ws, lo, hi => some (.newl (cutW ws lo hi))
  | .tup ws, lo, hi => if HT.sIx ws.length 0 lo = 0 ∧ HT.sIx ws.length ws.length hi = ws.length then some (.imm (.tup ws)) else some (.newt (cutW ws lo hi))
  | .str z, lo, hi => if z.length ≤ sz then some (.imm (.str (cutS z lo hi))) else none
  | .byt z, lo, hi => if z.size ≤ sz then some (.imm (.byt (PySem.W.KBy.picked z lo hi))) else none
  | _, _, _ => none
def rSlW (K : PySem.W.Frag) : V → Option Int → Option Int → Hp → VK → Prop := fun x lo hi H Q => rSlL K x lo hi H Q ∨ rSlA K x lo hi H Q ∨ rSlS x lo hi H Q ∨ rSlB x lo hi H Q
theorem sl_any {X : Cx} : SlR X (rSlW X.K) := sl_list.or (sl_tupA.or (sl_str.or sl_byt))
theorem sl_hr {x : W} {vx : V} {lo hi : Option Int} {z : OR} {Q : VK} (rx : Rn K mg io M H x vx) (e : fSl x lo hi = some z) (q : OQ K mg io M H z Q) : rSlW K vx lo hi H Q := by
  unfold fSl at e
  split at e
  · cases e
    obtain ⟨a, vs, rfl, h, r⟩ := rx.lst
    exact .inl ⟨a, vs, rfl, .inl (.inl h), fun p hp => q p _ hp (r.cut lo hi)⟩
  · cases e
    obtain ⟨a, vs, rfl, h, r⟩ := rx.frl
    exact .inl ⟨a, vs, rfl, h, fun p hp => q p _ hp (r.cut lo hi)⟩
  · rename_i ws
    have rt : ∃ a vs, vx = .ref a ∧ SqT K H a vs ∧ Rws K mg io M H ws vs ∧ Rw K mg io M H (.tup ws) vx := by
      rcases rx with h | ⟨c, o, a, e, rfl, ha, hc⟩
      · cases h with
        | tup h l q => exact ⟨_, _, rfl, h.elim (fun z => SqT.of z.1) fun z => .inr z.1, ⟨l, q⟩, .tup h l q⟩
      · cases c <;> cases e
    obtain ⟨a, vs, rfl, h, r, rr⟩ := rt
    refine .inr (.inl ⟨a, vs, rfl, h, fun g => ?_, fun g p hp => ?_⟩)
    · rw [← r.1] at g
      rw [if_pos g] at e
      cases e
      exact q _ rr
    · rw [← r.1] at g
      rw [if_neg g] at e
      cases e
      exact q p _ hp (r.cut lo hi)
  · split at e
    · rename_i hz
      cases e
      obtain rfl := rx.str
      exact .inr (.inr (.inl ⟨_, rfl, sz_le hz, q _ (.str _)⟩))
    · cases e
  · split at e
    · rename_i hz
      cases e
      obtain rfl := rx.byt
      exact .inr (.inr (.inr ⟨_, rfl, hz, q _ (.byt _)⟩))
    · cases e
  · cases e
def mSl (mo : Mo RV) (ml mh : Mo (Option Int)) : Mo RV := bnd mo fun x => bnd ml fun l => bnd mh fun h => bnd (look (settle x)) fun wx => liftO (fSl wx l h)
theorem ref_sl {to : TE} {tl th : TO} {mo : Mo RV} {ml mh : Mo (Option Int)} (ho : RefE K mg ea Wx to mo) (hl : RefO K mg ea Wx tl ml) (hh : RefO K mg ea Wx th mh) : RefE K mg ea Wx (tSl (rSlW K) to tl th) (mSl mo ml mh) := by
  intro σ H io Fr s S0 r0 s' e Q hok hex
  refine one2 ho S0 e hex fun x vx s1 H1 io1 e2 px => ?_
  obtain ⟨S1, T1, R1⟩ := px.settled
  rcases bnd_some e2 with ⟨z, e3, rfl⟩ | ⟨l, s2, e3, e4⟩
  · exact hl σ H1 io1 Fr s1 S1 _ _ e3 _ (fun _ q => by cases q) fun x' q cls d H' io' py => by
      cases q
      exact hex _ rfl cls d H' io' ⟨py.1, T1.trans py.2.1, py.2.2⟩
  · refine hl σ H1 io1 Fr s1 S1 _ _ e3 _ (fun l' q H2 io2 p2 => ?_) (fun _ q => by cases q)
    cases q
    have T2 := T1.trans p2.2
    rcases bnd_some e4 with ⟨z, e5, rfl⟩ | ⟨h, s3, e5, e6⟩
    · exact hh σ H2 io2 Fr s2 p2.1 _ _ e5 _ (fun _ q => by cases q) fun x' q cls d H' io' py => by
        cases q
        exact hex _ rfl cls d H' io' ⟨py.1, T2.trans py.2.1, py.2.2⟩
    · refine hh σ H2 io2 Fr s2 p2.1 _ _ e5 _ (fun h' q H3 io3 p3 => ?_) (fun _ q => by cases q)
      cases q
      have T3 := T2.trans p3.2
      have R3 := (R1.pers p2.2.p).pers p3.2.p
      rcases bnd_some e6 with ⟨z, e7, rfl⟩ | ⟨wx, s4, e7, e8⟩
      · obtain ⟨_, _, q, _⟩ := look_ok p3.1 R3 e7
        cases q
      · obtain ⟨rfl, wx', q, nx⟩ := look_ok p3.1 R3 e7
        cases q
        obtain ⟨rfl, u, hu, rfl⟩ := liftO_some e8
        exact sl_hr nx hu (OQ.post p3.1 T3 fun v H3 io3 px => hok _ rfl v H3 io3 px)
def truW : W → Option Bool
  | .non => some false
  | .bl b => some b
  | .int i => some (i != 0)
  | .str y => if y.length ≤ sz then some ((y.length : Int) != 0) else none
  | .byt y => if y.size ≤ sz then some ((y.size : Int) != 0) else none
  | .lst ws => some (!ws.isEmpty)
  | .frl ws => some (!ws.isEmpty)
  | .tup ws => some (!ws.isEmpty)
  | _ => none
theorem Rws.emp (h : Rws K mg io M H ws vs) : ws.isEmpty = vs.isEmpty := by
  have := h.1
  cases ws <;> cases vs <;> simp_all
theorem tru_hr {x : W} {vx : V} {b : Bool} (rx : Rn K mg io M H x vx) (e : truW x = some b) : TruV K vx H b := by
  have hs : (sizeLine : Nat) = sz := sizeLine_eq
  cases x with
  | non =>
    cases e
    rcases rx with h | ⟨c, o, a, e, rfl, ha, hc⟩
    · cases h; rfl
    · cases c <;> cases e
  | bl k => cases e; obtain rfl := rx.bl; rfl
  | int i => cases e; obtain rfl := rx.int; rfl
  | str y =>
    obtain rfl := rx.str
    simp only [truW] at e
    split at e
    · rename_i hz
      cases e
      exact ⟨by rw [hs]; exact hz, rfl⟩
    · cases e
  | byt y =>
    obtain rfl := rx.byt
    simp only [truW] at e
    split at e
    · rename_i hz
      cases e
      exact ⟨by rw [hs]; exact hz, rfl⟩
    · cases e
  | lst ws =>
    cases e
    obtain ⟨a, vs, rfl, h, r⟩ := rx.lst
    exact .inl ⟨vs, .inl (.inl h), by rw [r.emp]⟩
  | frl ws =>
    cases e
    obtain ⟨a, vs, rfl, h, r⟩ := rx.frl
    exact .inl ⟨vs, h, by rw [r.emp]⟩
  | tup ws =>
    cases e
    obtain ⟨a, vs, rfl, h, r⟩ := rx.tup
    exact .inr (.inl ⟨vs, h, by rw [r.emp]⟩)
  | _ => cases e
def liftB (z : Option Bool) : Mo Bool := match z with
  | some b => ret b
  | none => stk
theorem liftB_some {z : Option Bool} {r : Except Ex Bool} (h : liftB z s = some (r, s')) : s' = s ∧ ∃ u, z = some u ∧ r = .ok u := by
  cases z with
  | none => cases h
  | some u => cases h; exact ⟨rfl, u, rfl, rfl⟩
def mTru (m : Mo RV) : Mo Bool := bnd m fun x => bnd (look (settle x)) fun w => liftB (truW w)
theorem ref_tru {t : TE} {m : Mo RV} (h : RefE K mg ea Wx t m) : RefT K mg ea Wx (fun σ H Q => t σ H fun x H' => ∃ k, TruV K x H' k ∧ Q k H') (mTru m) := by
  intro σ H io Fr s S0 r0 s' e Q hok hex
  refine one2 h S0 e hex fun x v s1 H1 io1 e2 px => ?_
  obtain ⟨S1, T1, R1⟩ := px.settled
  rcases bnd_some e2 with ⟨z, e5, rfl⟩ | ⟨wx, s3, e5, e6⟩
  · obtain ⟨_, _, q, _⟩ := look_ok S1 R1 e5
    cases q
  · obtain ⟨rfl, wx', q, nx⟩ := look_ok S1 R1 e5
    cases q
    obtain ⟨rfl, u, hu, rfl⟩ := liftB_some e6
    exact ⟨u, tru_hr nx hu, hok _ rfl H1 io1 ⟨S1, T1⟩⟩
def mChain (f g : W → W → Option OR) (ma mb mc : Mo RV) : Mo RV := bnd ma fun x => bnd mb fun y => bnd (mB (opM f (settle x) (settle y))) fun k => if k = true then bnd mc fun z => opM g (settle y) (settle z) else ret (.val (.bl false))
theorem ref_chain {X : Cx} {r r' : R2} {f g : W → W → Option OR} (hr : ∀ io M H x y vx vy z Q, Rn K mg io M H x vx → Rn K mg io M H y vy → f x y = some z → OQ K mg io M H z Q → r vx vy H Q)
    (hr' : ∀ io M H x y vx vy z Q, Rn K mg io M H x vx → Rn K mg io M H y vy → g x y = some z → OQ K mg io M H z Q → r' vx vy H Q)
    {ta tb tc : TE} {ma mb mc : Mo RV} (ha : RefE K mg ea Wx ta ma) (hb : RefE K mg ea Wx tb mb) (hc : RefE K mg ea Wx tc mc) : RefE K mg ea Wx (tChain r r' ta tb tc) (mChain f g ma mb mc) := by
  intro σ H io Fr s S0 r0 s' e Q hok hex
  refine one2 ha S0 e hex fun x vx s1 H1 io1 e2 px => ?_
  obtain ⟨S1, T1, R1⟩ := px.settled
  refine one2 hb S1 e2 (fun x q cls d H' io' px => hex x q cls d H' io' ⟨px.1, T1.trans px.2.1, px.2.2⟩) fun y vy s2 H2 io2 e3 py => ?_
  obtain ⟨S2, T2', R2⟩ := py.settled
  have T2 := T1.trans T2'
  have R1' := R1.pers T2'.p
  rcases bnd_some e3 with ⟨z, e4, rfl⟩ | ⟨k, s3, e4, e5⟩
  · rcases bnd_some e4 with ⟨z', e6, _⟩ | ⟨q, s4, e6, e7⟩
    · unfold opM at e6
      rcases bnd_some e6 with ⟨z, e8, _⟩ | ⟨wx, s5, e8, e9⟩
      · obtain ⟨_, _, q, _⟩ := look_ok S2 R1' e8
        cases q
      · obtain ⟨rfl, wx', q, nx⟩ := look_ok S2 R1' e8
        cases q
        rcases bnd_some e9 with ⟨z, e10, _⟩ | ⟨wy, s6, e10, e11⟩
        · obtain ⟨_, _, q, _⟩ := look_ok S2 R2 e10
          cases q
        · obtain ⟨rfl, wy', q, ny⟩ := look_ok S2 R2 e10
          cases q
          obtain ⟨_, u, _, h⟩ := liftO_some e11
          cases h
    · obtain ⟨_, b, _, h⟩ := toB_some e7
      cases h
  · rcases bnd_some e4 with ⟨z', e6, h⟩ | ⟨q, s4, e6, e7⟩
    · cases h
    · obtain ⟨rfl, b, rfl, hb'⟩ := toB_some e7
      cases hb'
      unfold opM at e6
      rcases bnd_some e6 with ⟨z, e8, h⟩ | ⟨wx, s5, e8, e9⟩
      · cases h
      · obtain ⟨rfl, wx', q, nx⟩ := look_ok S2 R1' e8
        cases q
        rcases bnd_some e9 with ⟨z, e10, h⟩ | ⟨wy, s6, e10, e11⟩
        · cases h
        · obtain ⟨rfl, wy', q, ny⟩ := look_ok S2 R2 e10
          cases q
          obtain ⟨rfl, u, hu, h⟩ := liftO_some e11
          cases u with
          | imm w =>
            cases h
            refine hr _ _ _ _ _ _ _ _ _ nx ny hu fun v rv => ?_
            cases rv
            refine ⟨k, rfl, ?_⟩
            cases k with
            | false =>
              rw [if_neg (by simp)]
              cases e5
              exact hok _ rfl _ _ _ ⟨S2, T2, .bl _⟩
            | true =>
              rw [if_pos rfl]
              refine one2 hc S2 e5 (fun x q cls d H' io' px => hex x q cls d H' io' ⟨px.1, T2.trans px.2.1, px.2.2⟩) fun z vz s7 H7 io7 e12 pz => ?_
              obtain ⟨S7, T7', R7⟩ := pz.settled
              have T7 := T2.trans T7'
              have R2' := R2.pers T7'.p
              unfold opM at e12
              rcases bnd_some e12 with ⟨z, e13, rfl⟩ | ⟨wy2, s8, e13, e14⟩
              · obtain ⟨_, _, q, _⟩ := look_ok S7 R2' e13
                cases q
              · obtain ⟨rfl, wy', q, ny2⟩ := look_ok S7 R2' e13
                cases q
                rcases bnd_some e14 with ⟨z, e15, rfl⟩ | ⟨wz, s9, e15, e16⟩
                · obtain ⟨_, _, q, _⟩ := look_ok S7 R7 e15
                  cases q
                · obtain ⟨rfl, wz', q, nz⟩ := look_ok S7 R7 e15
                  cases q
                  obtain ⟨rfl, u2, hu2, rfl⟩ := liftO_some e16
                  exact hr' _ _ _ _ _ _ _ _ _ ny2 nz hu2 (OQ.post S7 T7 fun v H3 io3 px => hok _ rfl v H3 io3 px)
          | newl ws => cases h
          | newt ws => cases h
end
section
variable {X : Cx} {ea : EA} {Wx : WX} {e o i a b c : Expr} {mo mv mi ma mb mc : Mo RV} {pos p2 tpos : Pos} {r : TSet} {f g : W → W → Option OR}
structure Peo (X : Cx) (ea : EA) (Wx : WX) (e : Option Expr) (m : Mo (Option Int)) : Prop where
  ex : ∃ t, PO X e t ∧ RefO X.K X.mg ea Wx t m
theorem peo_some (h : Pee X ea Wx e mv) : Peo X ea Wx (some e) (mPart mv) := let ⟨_, q, r⟩ := h.ex; ⟨_, po_some q, ref_part r⟩
theorem pee_sl {lo hi : Option Expr} {ml mh : Mo (Option Int)} (ho : Pee X ea Wx o mo) (hl : Peo X ea Wx lo ml) (hh : Peo X ea Wx hi mh) : Pee X ea Wx (.Subscript o (.Slice lo hi none p2) pos) (mSl mo ml mh) := by
  obtain ⟨t, q, rr⟩ := ho.ex
  obtain ⟨t', q', rr'⟩ := hl.ex
  obtain ⟨t2, q2, rr2⟩ := hh.ex
  exact ⟨_, pe_slice sl_any q q' q2, ref_sl rr rr' rr2⟩
theorem pet_tru (ha : Pee X ea Wx a ma) (he : ∀ whole, isTrue a X.env whole = (do let v ← whole; standAt a.pos; holding [v] (truthy v)) := by intro _; rfl) : Pet X ea Wx a (mTru ma) :=
  let ⟨_, q, r⟩ := ha.ex; ⟨_, pt_truth q he, ref_tru r⟩
theorem pee_chain {op op' : CmpOp} (ho : OpM X (compareOp op) f) (ho' : OpM X (compareOp op') g) (ha : Pee X ea Wx a ma) (hb : Pee X ea Wx b mb) (hc : Pee X ea Wx c mc)
    (hm : lastMarks [op, op'] [b, c] = false := by with_unfolding_all rfl) : Pee X ea Wx (.Compare a [op, op'] [b, c] pos) (mChain f g ma mb mc) := by
  obtain ⟨r1, p1, w1⟩ := ho
  obtain ⟨r2, p2, w2⟩ := ho'
  obtain ⟨t, q, rr⟩ := ha.ex
  obtain ⟨t', q', rr'⟩ := hb.ex
  obtain ⟨t2, q2, rr2⟩ := hc.ex
  exact ⟨_, pe_chain p1 p2 q q' q2 hm, ref_chain (X := X) w1 w2 rr rr' rr2⟩
end
end Z
set_option Elab.async false
set_option linter.all false
set_option maxRecDepth 100000
namespace Z
open PySem PySem.Spec PyProof.Rows
open L2 hiding XE Takes CX takes_of passes_call passAt MkP PMk ps_raise mk_of ps_try_as ps_try_many pmk_own Takes.imp
open L2N
inductive CT where
  | ty (n : String)
  | own (nm : Str)
deriving DecidableEq
def CT.Is (mg : Str → Option Value) : CT → Value → Prop
  | .ty n, v => v = .type n
  | .own nm, v => ∃ C, mg nm = some (.ref C) ∧ v = .ref C
def tyOfW : W → Option CT
  | .non => some (.ty "NoneType")
  | .bl _ => some (.ty "bool")
  | .int _ => some (.ty "int")
  | .str _ => some (.ty "str")
  | .byt _ => some (.ty "bytes")
  | .tup _ => some (.ty "tuple")
  | .lst _ => some (.ty "list")
  | .frl _ => some (.ty "list")
  | .dK _ => some (.ty "dict")
  | .dT _ => some (.ty "dict")
  | .dF _ => some (.ty "dict")
  | .obj nm _ => some (.own nm)
  | .slt _ _ => none
  | .ref _ => none
inductive TyY (K : PySem.W.Frag) (H : Hp) : V → Value → Prop where
  | base {x : V} {t : Value} (h : TyX K H x t) : TyY K H x t
  | fT {a : Addr} {o : Obj} {kvs : List (List Key × V)} (e : H a = some (.frz o (.dT kvs))) : TyY K H (.ref a) (.type "dict")
theorem kit_ofY {X : Cx} {pins : List (Addr × Obj)} {σ : L2.St} {H : Hp} {s : Shared} {x : V} {u t : Value} (I : Inv X pins σ H s) (rx : RelV x u) (ty : TyY X.K H x t) : ∃ P : Heap → Prop, PySem.W.KitX X.K u t P ∧ P s.heap ∧ u ≠ .builtin "__main__.__loader__#opaque" := by
  rcases ty with h | e
  · exact kit_of I rx h
  · rename_i a ob kvs
    cases rx
    obtain ⟨_, _, _, _, _, o, _, _, here, exact', _⟩ := (show ObjOk X.prog X.w H s.heap a (.frz ob (.dT kvs)) from I.hok a _ e)
    exact ⟨_, PySem.W.kitx_dict, ⟨o, here, exact'.1⟩, nofun⟩
def rIsY (K : PySem.W.Frag) (u : Value) : List V → Hp → VK → Prop := fun xs H Q => ∃ (x c : V) (t : Value) (b : Bool), xs = [x, c] ∧ ClsV c u ∧ TyY K H x t ∧ PySem.W.kitOne K t u = some b ∧ Q (.bl b) H
theorem call_isY {X : Cx} {u : Value} : CallR X (.builtin "isinstance") (rIsY X.K u) := by
  rintro pins s σ H _ _ Q I r ⟨x, c, t, b, rfl, k, ty, e, q⟩
  obtain ⟨v, k2, rfl, rv, rk⟩ := vals2 r
  cases k.eq rk
  exact let ⟨_, Z, p, no⟩ := kit_ofY I rv ty; PySem.W.kia_one Z I.kIn p e no fun tk => ⟨_, H, I.tok tk, show RelV (.bl b) _ from rfl, q⟩
section
variable {K : PySem.W.Frag} {mg : Str → Option Value} {ea : EA} {io io' : List Addr} {Fr Fr' : Addr → Prop} {s s' s2 : S} {σ σ' : L2.St} {H H' : Hp} {w : W} {v : V} {c c' : Cell} {o o' : HO} {a p C : Addr} {ws : List W} {vs : List V} {M M' : Addr → Prop} {Wx : WX}
theorem Rn.ty {ct : CT} (h : Rn K mg io M H w v) (e : tyOfW w = some ct) (hF : ∀ nm, ct = .own nm → ∃ C, mg nm = some (.ref C) ∧ C8.InsC K C) : ∃ t, ct.Is mg t ∧ TyY K H v t := by
  cases w with
  | non =>
    cases e
    rcases h with h | ⟨c, o, a, e, rfl, ha, hc⟩
    · cases h; exact ⟨_, rfl, .base (.base .non)⟩
    · cases c <;> cases e
  | bl b => cases e; obtain rfl := h.bl; exact ⟨_, rfl, .base (.base (.bl b))⟩
  | int b => cases e; obtain rfl := h.int; exact ⟨_, rfl, .base (.base (.int b))⟩
  | str b => cases e; obtain rfl := h.str; exact ⟨_, rfl, .base (.base (.str b))⟩
  | byt b => cases e; obtain rfl := h.byt; exact ⟨_, rfl, .base (.byt b)⟩
  | tup ws =>
    cases e
    rcases h with h | ⟨c, o, a, e, rfl, ha, hc⟩
    · cases h with
      | tup h l q =>
        rcases h with ⟨h, _⟩ | ⟨⟨o, its, n, k1, k2, _⟩, _⟩
        · exact ⟨_, rfl, .base (.base (.tup h))⟩
        · exact ⟨_, rfl, .base (.kTuple k1 k2)⟩
    · cases c <;> cases e
  | lst ws =>
    cases e
    obtain ⟨a, vs, rfl, h, r⟩ := h.lst
    exact ⟨_, rfl, .base (.base (.lst h))⟩
  | frl ws =>
    cases e
    rcases h with h | ⟨c, o, a, e, rfl, ha, hc⟩
    · cases h with
      | frl h l q =>
        rcases h with ⟨h, _⟩ | ⟨o, its, n, k1, k2, _⟩
        · rcases h with h | ⟨oo, h⟩
          · exact ⟨_, rfl, .base (.base (.lst h))⟩
          · exact ⟨_, rfl, .base (.base (.frz h))⟩
        · exact ⟨_, rfl, .base (.kList k1 k2)⟩
    · cases c <;> cases e
  | dK kvs =>
    cases e
    rcases h with h | ⟨c, o, a, e, rfl, ha, hc⟩
    · cases h with
      | dK h l q r =>
        rcases h with h | ⟨oo, h⟩
        · exact ⟨_, rfl, .base (.base (.dK h))⟩
        · exact ⟨_, rfl, .base (.fDict h)⟩
    · cases c <;> cases e
      obtain ⟨vs, rfl, _⟩ := hc
      exact ⟨_, rfl, .base (.base (.dK ha))⟩
  | dT kvs =>
    cases e
    rcases h with h | ⟨c, o, a, e, rfl, ha, hc⟩
    · cases h with
      | dT h l q r =>
        rcases h with h | ⟨oo, h⟩
        · exact ⟨_, rfl, .base (.base (.dT h))⟩
        · exact ⟨_, rfl, .fT h⟩
    · cases c <;> cases e
      obtain ⟨vs, rfl, _⟩ := hc
      exact ⟨_, rfl, .base (.base (.dT ha))⟩
  | dF kvs =>
    cases e
    rcases h with h | ⟨c, o, a, e, rfl, ha, hc⟩
    · cases h with
      | dF h l q r => exact ⟨_, rfl, .fT h⟩
    · cases c <;> cases e
  | obj nm fs =>
    cases e
    obtain ⟨C, hm, ic⟩ := hF nm rfl
    obtain ⟨a, C', dx, vs, rfl, hm', ha, r⟩ := h.obj
    rw [hm] at hm'
    cases hm'
    exact ⟨_, ⟨C, hm, rfl⟩, .base (.base (.ins ha ic.cl ic.ha ic.hn ic.htk ic.hm))⟩
  | slt nm ws => cases e
  | ref n => cases e
def tabAt {α : Type} : List (CT × α) → CT → Option α
  | [], _ => none
  | (c, b) :: r, d => if c = d then some b else tabAt r d
structure IsTab (K : PySem.W.Frag) (mg : Str → Option Value) (u : Value) (tab : List (CT × Bool)) : Prop where
  at' : ∀ c b, tabAt tab c = some b → (∀ t, c.Is mg t → PySem.W.kitOne K t u = some b) ∧ ∀ nm, c = .own nm → ∃ C, mg nm = some (.ref C) ∧ C8.InsC K C
theorem IsTab.nil {u : Value} : IsTab K mg u [] := ⟨fun c b h => by cases h⟩
theorem IsTab.ty {u : Value} {tab : List (CT × Bool)} {n : String} {b : Bool} (h : PySem.W.kitOne K (.type n) u = some b) (r : IsTab K mg u tab) : IsTab K mg u ((.ty n, b) :: tab) := ⟨fun c b' e => by
  unfold tabAt at e
  split at e
  · rename_i hc
    subst hc
    cases e
    exact ⟨fun t ht => by cases ht; exact h, fun nm q => by cases q⟩
  · exact r.at' c b' e⟩
theorem IsTab.own {u : Value} {tab : List (CT × Bool)} {nm : Str} {b : Bool} (hm : mg nm = some (.ref C)) (ic : C8.InsC K C) (h : PySem.W.kitOne K (.ref C) u = some b) (r : IsTab K mg u tab) : IsTab K mg u ((.own nm, b) :: tab) := ⟨fun c b' e => by
  unfold tabAt at e
  split at e
  · rename_i hc
    subst hc
    cases e
    exact ⟨fun t ht => by obtain ⟨D, h1, rfl⟩ := ht; rw [hm] at h1; cases h1; exact h, fun nm' q => by cases q; exact ⟨C, hm, ic⟩⟩
  · exact r.at' c b' e⟩
def mIs (tab : List (CT × Bool)) (m : Mo RV) : Mo RV := bnd m fun x => bnd (look (settle x)) fun w => liftO ((tyOfW w).bind fun c => (tabAt tab c).map fun b => .imm (.bl b))
theorem ref_is {u : Value} {cv : V} {tab : List (CT × Bool)} (T : IsTab K mg u tab) (hc : ClsV cv u) {t : TE} {m : Mo RV} (h : RefE K mg ea Wx t m) : RefE K mg ea Wx (fun σ H Q => (tCons t (tCons (tC cv) tNil)) σ H fun xs H1 => rIsY K u xs H1 Q) (mIs tab m) := by
  intro σ H io Fr s S0 r0 s' e Q hok hex
  refine one2 h S0 e hex fun x v s1 H1 io1 e2 px => ?_
  obtain ⟨S1, T1, R1⟩ := px.settled
  rcases bnd_some e2 with ⟨z, e5, rfl⟩ | ⟨wx, s3, e5, e6⟩
  · obtain ⟨_, _, q, _⟩ := look_ok S1 R1 e5
    cases q
  · obtain ⟨rfl, wx', q, nx⟩ := look_ok S1 R1 e5
    cases q
    obtain ⟨rfl, z, hu, rfl⟩ := liftO_some e6
    obtain ⟨ct, h1, h2⟩ := Option.bind_eq_some_iff.mp hu
    obtain ⟨b, h3, rfl⟩ := Option.map_eq_some_iff.mp h2
    obtain ⟨k1, k2⟩ := T.at' ct b h3
    obtain ⟨t, ht, ty⟩ := nx.ty h1 k2
    exact ⟨v, cv, t, b, rfl, hc, ty, k1 t ht, hok _ rfl _ _ _ ⟨S1, T1, .bl b⟩⟩
def mXf (nms : List Str) (i : Nat) (f : Str) : Mo RV := fun s => match s.r[i]? with
  | some (.exc x) => if x.nm ∈ nms then (match x.fs.lookup f with
    | some w => some (.ok (.val w), s)
    | none => none) else none
  | _ => none
def mIsX (tab : List (CT × Bool)) (i : Nat) : Mo RV := fun s => match s.r[i]? with
  | some (.exc x) => (match tabAt tab (.own x.nm) with
    | some b => some (.ok (.val (.bl b)), s)
    | none => none)
  | _ => none
def XfN (K : PySem.W.Frag) (mg : Str → Option Value) (nms : List Str) (f : Str) : Prop := ∀ nm ∈ nms, ∃ C, mg nm = some (.ref C) ∧ XfC K C ∧ PySem.W.findIn K (.ref C) f = some none
theorem XfN.nil {f : Str} : XfN K mg [] f := fun nm h => by cases h
theorem XfN.cons {f nm : Str} {nms : List Str} (hm : mg nm = some (.ref C)) (h : XfC K C) (hn : PySem.W.findIn K (.ref C) f = some none) (r : XfN K mg nms f) : XfN K mg (nm :: nms) f := fun n hh => by
  rcases List.mem_cons.mp hh with rfl | q
  · exact ⟨C, hm, h, hn⟩
  · exact r n q
structure IsTabX (K : PySem.W.Frag) (mg : Str → Option Value) (u : Value) (tab : List (CT × Bool)) : Prop where
  at' : ∀ nm b, tabAt tab (.own nm) = some b → ∃ C, mg nm = some (.ref C) ∧ ExcC K C ∧ PySem.W.kitOne K (.ref C) u = some b
theorem IsTabX.nil {u : Value} : IsTabX K mg u [] := ⟨fun c b h => by cases h⟩
theorem IsTabX.own {u : Value} {tab : List (CT × Bool)} {nm : Str} {b : Bool} (hm : mg nm = some (.ref C)) (ic : ExcC K C) (h : PySem.W.kitOne K (.ref C) u = some b) (r : IsTabX K mg u tab) : IsTabX K mg u ((.own nm, b) :: tab) := ⟨fun c b' e => by
  unfold tabAt at e
  split at e
  · rename_i hc
    cases hc
    cases e
    exact ⟨C, hm, ic, h⟩
  · exact r.at' c b' e⟩
end
def rIsX (K : PySem.W.Frag) (a : Addr) (cls : Value) (d : Option Addr) (u : Value) : List V → Hp → VK → Prop := fun xs H Q => ∃ (c : V) (C : Addr) (b : Bool), xs = [.ref a, c] ∧ ClsV c u ∧ cls = .ref C ∧ ExcC K C ∧ PySem.W.kitOne K (.ref C) u = some b ∧ (d = none ∨ ∃ dd vs, d = some dd ∧ H dd = some (.xd vs)) ∧ Q (.bl b) H
theorem flying_inst {X : Cx} {a : Addr} {D : Addr} {d : Option Addr} {oe : Obj} {pn pins : List (Addr × Obj)} {σ : L2.St} {H : Hp} {s : Shared} (hz : Zn (.ref D) d oe) (hf : ∃ vs, oe.data = .fields vs) (I : Inv (X.suite a ((a, oe) :: pn)) pins σ H s) (hd : d = none ∨ ∃ dd vs, d = some dd ∧ H dd = some (.xd vs)) :
    ∃ od, PySem.W.InstAt s.heap a oe D od := by
  have here := (I.pin (a, oe) (List.mem_append_left _ (List.mem_cons_self ..))).1
  have plain : PySem.W.notCls oe = true := by
    obtain ⟨_, e⟩ := hf
    unfold PySem.W.notCls
    rw [e]
  rcases hd with rfl | ⟨dd, us, rfl, e⟩
  · exact ⟨none, here, hz.1, plain, by rw [hz.2.1]; trivial⟩
  · have ns := (show ObjOk X.prog X.w H s.heap dd (.xd us) from I.hok dd _ e)
    exact let ⟨_, n1, _⟩ := ns; let ⟨o, n2, _⟩ := lookIn_ns n1; ⟨some o, here, hz.1, plain, by rw [hz.2.1]; exact n2⟩
theorem call_isX {X : Cx} {a : Addr} {cls : Value} {d : Option Addr} {oe : Obj} {pn : List (Addr × Obj)} {u : Value} (hz : Zn cls d oe) (hf : ∃ vs, oe.data = .fields vs) : CallR (X.suite a ((a, oe) :: pn)) (.builtin "isinstance") (rIsX X.K a cls d u) := by
  rintro pins s σ H _ _ Q I r ⟨c, D, b, rfl, cv, rfl, C, e, hd, q⟩
  obtain ⟨v, k2, rfl, rv, rk⟩ := vals2 r
  cases rv
  cases cv.eq rk
  obtain ⟨od, J⟩ := flying_inst hz hf I hd
  have known : (PySem.W.clsIn X.K D).isSome = true := by
    obtain ⟨_, z, _⟩ := PySem.W.any_some C.hd
    simp [z]
  exact PySem.W.kia_one (PySem.W.kitx_exc (od := od) known C.hg C.hk C.hs C.ha C.hn C.ht C.hm) I.kIn J e nofun fun tk => ⟨_, H, I.kept (t' := tk) fun _ _ z => z, show RelV (.bl b) _ from rfl, q⟩
section
variable {X : Cx} {ea : EA} {Wx : WX} {e : Expr} {es : List Expr} {m : Mo RV} {u : Value} {cv : V} {tab : List (CT × Bool)} {p p2 pos : Pos} {cn : Str}
theorem pee_is (T : IsTab X.K X.mg u tab) (hc : ClsV cv u) (hn : ∀ p, PE X (.Name cn p) (tC cv)) (hm : X.mg "isinstance" = none) (he : Pee X ea Wx e m) (hg : Gl X "isinstance" := by rfl) (hv : bootBuiltins "isinstance" = some (.builtin "isinstance") := by decide +kernel)
    (hst : starEach [e, .Name cn p2] X.env = (false, eval e X.env) :: starEach [.Name cn p2] X.env := by rfl) (hpl : (backTo pos (starEach [.Name cn p2] X.env)).any (·.1) = false := by rfl)
    (hs2 : starEach [.Name cn p2] X.env = (false, eval (.Name cn p2) X.env) :: starEach [] X.env := by rfl) : Pee X ea Wx (.Call (.Name "isinstance" p) [e, .Name cn p2] [] pos) (mIs tab m) := by
  obtain ⟨t, q, r⟩ := he.ex
  exact ⟨_, pe_callB call_isY hg hm hv (pa_cons q (pa_cons (hn p2) pa_nil hs2) hst) (by decide) (by decide) hst hpl, ref_is T hc r⟩
end
end Z
set_option Elab.async false
set_option linter.all false
set_option maxRecDepth 100000
namespace Z
open PySem PySem.Spec PyProof.Rows
open L2 hiding XE Takes CX takes_of passes_call passAt MkP PMk ps_raise mk_of ps_try_as ps_try_many pmk_own Takes.imp
open L2N
section
variable {X : Cx} {ea : EA} {Wx : WX} {e : Expr} {es : List Expr} {m : Mo RV} {u : Value} {cv : V} {tab : List (CT × Bool)} {p p1 p2 pos pos' : Pos} {cn en f : Str} {a : Addr} {cls : Value} {d : Option Addr} {oe : Obj} {pn : List (Addr × Obj)} {nms : List Str}
theorem pee_isX (i : Nat) (hz : Zn cls d oe) (hf : ∃ vs, oe.data = .fields vs) (T : IsTabX X.K X.mg u tab) (hc : ClsV cv u) (hn : ∀ p, PE (X.suite a ((a, oe) :: pn)) (.Name cn p) (tC cv)) (hm : X.mg "isinstance" = none)
    (hi : X.N[i]? = some en := by rfl) (hx : Vis X.env.scope en := by first | exact .inl rfl | exact .inr (.inl rfl)) (hdb : (en == ("__debug__" : Str)) = false := by decide) (hcd : (en == ("__classdict__" : Str)) = false := by decide)
    (hg : Gl X "isinstance" := by rfl) (hv : bootBuiltins "isinstance" = some (.builtin "isinstance") := by decide +kernel)
    (hst : starEach [.Name en p1, .Name cn p2] X.env = (false, eval (.Name en p1) X.env) :: starEach [.Name cn p2] X.env := by rfl) (hpl : (backTo pos (starEach [.Name cn p2] X.env)).any (·.1) = false := by rfl)
    (hs2 : starEach [.Name cn p2] X.env = (false, eval (.Name cn p2) X.env) :: starEach [] X.env := by rfl) : Pee (X.suite a ((a, oe) :: pn)) ⟨a, cls, d⟩ Wx (.Call (.Name "isinstance" p) [.Name en p1, .Name cn p2] [] pos) (mIsX tab i) := by
  have pv : PE (X.suite a ((a, oe) :: pn)) (.Name en p1) (tVar i) := pe_var hi hx hdb hcd
  refine ⟨_, pe_callB (X := X.suite a ((a, oe) :: pn)) (call_isX (u := u) hz hf) hg hm hv (pa_cons pv (pa_cons (hn p2) pa_nil hs2) hst) (by decide) (by decide) hst hpl, ?_⟩
  intro σ H io Fr s S0 r0 s' e Q hok hex
  unfold mIsX at e
  split at e
  · rename_i x q
    split at e
    · rename_i b hb
      cases e
      obtain ⟨C, hC, ic, hk⟩ := T.at' _ _ hb
      obtain ⟨h1, D, h2, h3, h4⟩ := S0.exc i x q
      simp only at h1 h3 h4
      rw [show X.mg x.nm = some (.ref C) from hC] at h2
      cases h2
      refine ⟨_, h1, ?_⟩
      refine ⟨cv, C, b, rfl, hc, h3, ic, hk, ?_, hok _ rfl _ _ _ ⟨S0, .refl, .bl b⟩⟩
      rcases h4 with h4 | ⟨dd, vs, k1, k2, _⟩
      · exact .inl h4.2
      · exact .inr ⟨dd, vs, k1, k2⟩
    · cases e
  · cases e
theorem pee_xf (i : Nat) (hz : Zn cls d oe) (hf : ∃ vs, oe.data = .fields vs) (hN : XfN X.K X.mg nms f) (hi : X.N[i]? = some en := by rfl) (hx : Vis X.env.scope en := by first | exact .inl rfl | exact .inr (.inl rfl)) (hdb : (en == ("__debug__" : Str)) = false := by decide) (hcd : (en == ("__classdict__" : Str)) = false := by decide)
    (hb : attributeBase (.Name en p1) f X.env (eval (.Name en p1) X.env) = eval (.Name en p1) X.env := by rfl) : Pee (X.suite a ((a, oe) :: pn)) ⟨a, cls, d⟩ Wx (.Attribute (.Name en p1) f pos) (mXf nms i f) := by
  have pv : PE (X.suite a ((a, oe) :: pn)) (.Name en p1) (tVar i) := pe_var hi hx hdb hcd
  by_cases h : ∃ nm ∈ nms, ∃ C, X.mg nm = some (.ref C) ∧ cls = .ref C
  · obtain ⟨nm, hin, C, hC, rfl⟩ := h
    obtain ⟨C', hC', xf, hno⟩ := hN nm hin
    rw [hC] at hC'
    cases hC'
    refine ⟨_, pe_xf xf hno hz.zc hf pv hb, ?_⟩
    intro σ H io Fr s S0 r0 s' e Q hok hex
    unfold mXf at e
    split at e
    · rename_i x q
      split at e
      · split at e
        · rename_i w hw
          cases e
          obtain ⟨h1, D, h2, h3, h4⟩ := S0.exc i x q
          simp only at h1 h3 h4
          rcases h4 with ⟨h4, _⟩ | ⟨dd, vs, k1, k2, k3, k4⟩
          · rw [h4] at hw; cases hw
          · obtain ⟨v, l1, l2⟩ := Rkv.lookup (vs := vs) k4 hw
            exact ⟨_, h1, rfl, rfl, dd, vs, v, k1, k2, l1, hok _ rfl v _ _ ⟨S0, .refl, l2⟩⟩
        · cases e
      · cases e
    · cases e
  · refine ⟨fun _ _ _ => False, ⟨fun _ _ _ _ _ _ h => h.elim⟩, ?_⟩
    intro σ H io Fr s S0 r0 s' e Q hok hex
    unfold mXf at e
    split at e
    · rename_i x q
      split at e
      · rename_i hin
        obtain ⟨h1, D, h2, h3, h4⟩ := S0.exc i x q
        exact h ⟨x.nm, hin, D, h2, h3⟩
      · cases e
    · cases e
end
abbrev Entered (qual : Str) (scope : Scope) (f : Addr) (cd : Value) (ps : List Str) (us : List Value) (s s1 : Shared) : Prop :=
  let kinds := (envOfC qual scope s.heap.objs.size f cd).kindOf
  InCallC s s.heap.objs.size (bindL kinds (ps.zip us) fun _ => none) (cellsFrom (s.heap.objs.size + 1) scope.names []) (bindC kinds (ps.zip us) fun _ => none) s1
theorem inv_startW {CX : CXT} {P : Program} {w : World} {K : PySem.W.Frag} {mg : Str → Option Value} {base : Heap} {N ps : List Str} {qual : Str} {scope : Scope} {f : Addr} {cd : Value} {A : Around} {outer : List Env} {s s1 : Shared} {H : Hp} {E : XK} {us : List Value} {vs : List V}
    (S : FnScope N ps scope) (e0 : Env0 P w K mg base A outer s H) (hl : vs.length = ps.length) (r : Vals vs us)
    (x : Entered qual scope f cd ps us s s1) :
    Inv { cxOf CX P w K mg base N qual scope f cd A outer s H E with calm := false } [] (L2.start N vs) H s1 := by
  have quiet : Env0 P w K mg base { A with handled := none } outer s H := { e0 with frames := e0.frames }
  have I := inv_start (CX := CX) (E := E) S rfl quiet hl r x
  exact { I with ok := { I.ok with hd := (fun z => nomatch z), frames := Around.frames_deeper e0.frames } }
structure FnW (P : Program) (w : World) (K : PySem.W.Frag) (mg : Str → Option Value) (base : Heap) (k : Nat) (f : Addr) (fd : FuncData) (ps : List Str) (m : Fn) : Prop where
  run : ∀ (A : Around) (outer : List Env) (s : Shared) (H : Hp) (args : Args) (us : List Value) (vs : List V) (Q : VK) (E : XK), L2H.RoomH k A → Env0 P w K mg base A outer s H → BindsTo s fd args (ps.zip us) → Vals vs us → spM K mg ps.length m vs H Q E →
    codeAny (model P w) A (.call (.ref f) args) (CR (L2N.CX P w) outer P w H s Q E) s
theorem FnW.toM {P : Program} {w : World} {K : PySem.W.Frag} {mg : Str → Option Value} {base : Heap} {k : Nat} {f : Addr} {fd : FuncData} {ps : List Str} {m : Fn} (F : FnW P w K mg base k f fd ps m) : FnM P w K mg base k f fd ps m :=
  ⟨⟨fun vs H Q E h => h.1, fun A outer s H args us vs Q E hr => F.run A outer s H args us vs Q E (L2H.roomH_of hr)⟩⟩
theorem par_lives {N ps : List Str} {sc : Scope} {n : Nat} (S : FnScope N ps sc) {us : List Value} : ∀ y ∈ ps.zip us, sc.names.lookup y.1 = some .local ∨ (sc.names.lookup y.1 = some .cell ∧ ((cellsFrom n sc.names []).lookup y.1).isSome = true) := by
  rintro y hy
  exact (S.par y.1 (List.of_mem_zip hy).1).imp id fun q => ⟨q, PySem.W.cellsFrom_some _ _ _ (.inl q)⟩
section
variable {K : PySem.W.Frag} {mg : Str → Option Value}
theorem spM_body {ps N : List Str} {n : Nat} {body : Mo Fl} {t : TS} {vs : List V} {H : Hp} {Q : VK} {E : XK} (hn : N.length = n) (hps : ps.length ≤ n) (rf : RefS K mg ea0 (fun cls d _ H => E cls d H) t body) (sp : spM K mg ps.length (fnM n body) vs H Q E) :
    t { nx := fun _ H' => Q .non H', rt := Q } (L2.start N vs) H := by
  obtain ⟨hl, io, Fr, G, ws, r0, G', g, R, e, hok, hex⟩ := sp
  obtain ⟨S0, mo⟩ := sim_start (ea := ea0) (s := ⟨[], G⟩) hn (by omega) g R
  unfold fnM at e
  have T0 : ∀ {M' : Addr → Prop} {io' : List Addr} {H' : Hp}, Stp io (Ms io Fr ⟨ws.map SV.val ++ List.replicate (n - ws.length) SV.non, G⟩ (L2.start N vs)) Fr H io' M' H' → Stp io (Mu io Fr) Fr H io' M' H' := fun T =>
    (Stp.refl.less fun b z => (mo b).1 z : Stp io (Mu io Fr) Fr H io (Ms io Fr ⟨ws.map SV.val ++ List.replicate (n - ws.length) SV.non, G⟩ (L2.start N vs)) H).trans T
  cases k : body ⟨ws.map SV.val ++ List.replicate (n - ws.length) SV.non, G⟩ with
  | none => rw [k] at e; cases e
  | some pr =>
    obtain ⟨rb, sb⟩ := pr
    rw [k] at e
    refine rf _ _ _ _ _ S0 _ _ k _ (fun q σ' H' io' px => ?_) (fun q σ' H' io' px => ?_) (fun q σ' H' io' px => ?_) (fun f q v H' io' px => ?_) fun xx q cls d σ' H' io' px => ?_
    · subst q
      cases e
      exact hok _ rfl _ _ _ ⟨px.1.g.less (s := sb) fun b z => .inl z, (T0 px.2).less fun b z => z.imp id .inl, .non⟩
    · subst q; cases e
    · subst q; cases e
    · subst q
      cases e
      cases f with
      | val w => exact hok _ rfl v H' io' ⟨px.1, T0 px.2.1, px.2.2⟩
      | own c =>
        obtain ⟨a, o, h1, h2, h3, h4, h5, h6⟩ := px
        exact hok _ rfl v H' io' ⟨a, o, h1, h2, h3, h4, T0 h5, h6⟩
    · subst q
      cases e
      obtain ⟨x1, x2, C, x3, x4, x5⟩ := px
      have le : ∀ b, Mu io' Fr b → Ms io' Fr sb σ' b := fun b z => z.imp id .inl
      refine hex _ rfl cls d H' io' ⟨x1.g.less (s := sb) fun b z => .inl z, (T0 x2).less le, C, x3, x4, x5.imp id ?_⟩
      rintro ⟨dd, us, y1, y2, y3, y4⟩
      exact ⟨dd, us, y1, y2, fun z => y3 (le _ z), y4.pers (.less le)⟩
def gives : Flow → Value
  | .ret u => u
  | _ => .none
theorem body_end {X : Cx} {s' : Shared} {Q : VK} {fl : Flow} (hf : X.fs = frs X.outer) (hx : X.ex = []) (h : SP X [] { nx := fun _ H' => Q .non H', rt := Q } fl s') : CE X.outer X.prog X.w X.H_0 X.s_0 Q (gives fl) s' := by
  have un : ∀ {σ : L2.St} {H' : Hp}, Inv X [] σ H' s' → Un (frs X.outer) [] X.H_0 H' X.s_0.heap s'.heap := fun J => by
    rw [← hf, ← hx]
    exact J.base
  cases fl with
  | next => exact let ⟨_, H', J, q⟩ := h; ⟨.non, H', J.os, J.bare, un J, J.hok, rfl, q⟩
  | ret u => exact let ⟨v, _, H', J, rv, q⟩ := h; ⟨v, H', J.os, J.bare, un J, J.hok, rv, q⟩
  | brk => exact let ⟨_, _, _, q⟩ := h; False.elim q
  | cont => exact let ⟨_, _, _, q⟩ := h; False.elim q
theorem defW {P : Program} {w : World} {base : Heap} {x qual : Str} {st : Stmt} {f : Addr} {fd : FuncData} {N ps : List Str} {k n : Nat} {body : Mo Fl} (F : Fun K x qual st f fd) (S : FnScope N ps (defScope st)) (hn : N.length = n)
    (hb : ∀ (cdv : Value) (A : Around) (outer : List Env) (s : Shared) (H : Hp) (E : XK), L2H.RoomH k (A.deeper (envOfC qual (defScope st) s.heap.objs.size f cdv)) →
      Pess { cxOf (L2N.CX P w) P w K mg base N qual (defScope st) f cdv A outer s H E with calm := false } ea0 (fun cls d _ H => E cls d H) (defBody st) body) : FnW P w K mg base (k + 1) f fd ps (fnM n body) := by
  constructor
  intro A outer s H args us vs Q E room e0 bt rv sp
  obtain ⟨_, _, _, _, _, _, cdv, _, _, rfl, lk, hcd⟩ := F.ex
  have born : ∀ b o, base.get? b = some o → s.heap.get? b = some o := fun b o e => (e0.bs b o e).1
  have kin := e0.mod.kin.keeps born
  refine codeAny_call_function room.depth (kin _ _ lk) rfl S.co S.gen rfl (PySem.W.codeRec_of kin hcd) (bt _ _ _ _ (wpAny_newFunctionEnv_cells S.kind (par_lives S) ?_))
  rintro _ rfl s1 x
  obtain ⟨t, p, rf⟩ := (hb cdv A outer s H E (room.deeper _)).ex
  have few : ps.length ≤ n := by rw [← hn, ← S.pre]; exact List.length_take_le' _ _
  refine ⟨(e0.mod.nolimit.keeps born).keeps x.toInCall.keep, codeAny_func (wpAny_mono (p.run [] s1 _ H _ (inv_startW S e0 sp.1 rv x) (spM_body hn few rf sp)) (fun fl s' h => ?_) fun _ _ h => h)⟩
  have out := body_end rfl rfl h
  cases fl <;> exact out
end
section
variable {X : Cx} {ea : EA} {Wx : WX} {e : Expr} {es : List Expr} {ms : Mo (List RV)} {m : Fn} {k : Nat} {f : Addr} {fd : FuncData} {ps : List Str} {x : Str} {p pos pos' p2 : Pos}
theorem call_at {CX : CXT} {A1 : Around} {pins : List (Addr × Obj)} {σ : L2.St} {H : Hp} {s : Shared} {Q : VK} {us : List Value} {E : XK} {Ex : Value → Shared → Prop} (I : Inv X pins σ H s) (h : codeAny (model X.prog X.w) A1 (.call (.ref f) ⟨us, []⟩) (CR CX X.stack X.prog X.w H s Q E) s)
    (ex : ∀ e s', CX X.stack H s E e s' → Ex e s') : wpAny (model X.prog X.w) A1 (call (.ref f) us) (EP X pins σ Q) Ex s := by
  refine wpAny_call (codeAny_mono h ?_)
  rintro (er | (_ | _ | _ | u)) s' q
  · exact ex er s' q
  all_goals first | exact q.elim | exact I.after q
theorem binds0 {pins : List (Addr × Obj)} {σ : L2.St} {H : Hp} {s : Shared} {us : List Value} {n : Nat} (hb : Binds X.K fd ps []) (I : Inv X pins σ H s) (hl : us.length = ps.length) : BindsTo s fd ⟨us, []⟩ (ps.zip us) := by
  simpa using hb s us I.kIn (by simpa using hl)
theorem run_fnW {pins : List (Addr × Obj)} {σ : L2.St} {H : Hp} {s : Shared} {Q : VK} {us : List Value} {vs : List V} {E : XK} (F : FnW X.prog X.w X.K X.mg X.base k f fd ps m) (hr : L2H.RoomH k X.A) (hb : Binds X.K fd ps []) (hx : Passes (L2N.CX X.prog X.w) X E)
    (I : Inv X pins σ H s) (r : Vals vs us) (h : spM X.K X.mg ps.length m vs H Q E) : wpAny (model X.prog X.w) X.A (call (.ref f) us) (EP X pins σ Q) X.xe s :=
  call_at I (F.run X.A X.stack s H ⟨us, []⟩ us vs Q E hr I.env0 (binds0 (n := 0) hb I (r.length.symm.trans h.1)) r h) fun e s' q => hx pins σ H s e s' I q
def quiet (m : Mo RV) : Mo RV := fun s => match m s with
  | some (.ok x, s') => some (.ok x, s')
  | _ => none
def mCallW (n : Nat) (m : Fn) (ms : Mo (List RV)) : Mo RV := bnd ms fun xs => bnd (freezeAll xs) fun ws => if ws.length = n then quiet (callG m ws) else stk
theorem pee_callW (F : FnW X.prog X.w X.K X.mg X.base k f fd ps m) (hr : L2H.RoomH k X.A) (hm : X.mg x = some (.ref f)) (hk : PySem.W.keepIn X.K (.ref f) = true) (hb : Binds X.K fd ps []) (ha : Pea X ea Wx (e :: es) ms)
    (hg : Gl X x := by rfl) (hdb : (x == ("__debug__" : Str)) = false := by decide) (he : starEach (e :: es) X.env = (false, eval e X.env) :: starEach es X.env := by rfl) (hpl : (backTo pos (starEach es X.env)).any (·.1) = false := by rfl) :
    Pee X ea Wx (.Call (.Name x p) (e :: es) [] pos) (mCallW ps.length m ms) := by
  obtain ⟨t, q, r⟩ := ha.ex
  refine ⟨fun σ H Q => t σ H fun vs H1 => spM X.K X.mg ps.length m vs H1 Q E0, ⟨fun pins s σ H Q I h => ?_⟩, ?_⟩
  · refine wpAny_Call_Name_kw (ld_glob I hg hm ?_ hdb)
    refine PySem.W.callWith_K (h₀ := X.base) I.ok.mod.kin hk (thn (q.run pos pins s σ H _ I h) fun us s1 ⟨vs, H1, I1, r, q⟩ => ⟨I1.kIn, ?_⟩) he hpl
    exact run_fnW F hr hb passN I1 r q
  · intro σ H io Fr s S0 r0 s' e Q hok hex
    refine arg2 r S0 e hex fun xs vs s1 H1 io1 e2 px R1 => ?_
    rcases bnd_some e2 with ⟨x, e3, rfl⟩ | ⟨ws, s2, e3, e4⟩
    · obtain ⟨_, _, _, _, q, _⟩ := freezeAll_ok px.1 R1 e3
      cases q
    · obtain ⟨_, m2, S2, ws', q, r2⟩ := freezeAll_ok px.1 R1 e3
      cases q
      split at e4
      · rename_i hn
        have T2 := px.2.less m2
        unfold quiet at e4
        split at e4
        · rename_i y s3 k3
          cases e4
          have := spM_use (n := ps.length) (Wx := fun _ _ _ _ => False) (Q := Q) (vs := vs) S2 r2 (r2.1.symm.trans hn) k3 (fun x q v H' io' p => by cases q; exact hok _ rfl v H' io' (p.trans T2)) (fun x q => by cases q)
          exact this
        · cases e4
      · cases e4
end
end Z
set_option Elab.async false
set_option linter.all false
set_option maxRecDepth 100000
namespace Z
open PySem PySem.Spec PyProof.Rows
open L2 hiding XE Takes CX takes_of passes_call passAt MkP PMk ps_raise mk_of ps_try_as ps_try_many pmk_own Takes.imp
open L2N
def OpRS (X : Cx) (g : Value → Value → Sem Value) (r : L2.St → R2) : Prop :=
  ∀ (pins : List (Addr × Obj)) (s : Shared) (σ : L2.St) (H : Hp) (x y : V) (v u : Value) (Q : VK), Inv X pins σ H s → RelV x v → RelV y u → r σ x y H Q → wpAny (model X.prog X.w) X.A (g v u) (EP X pins σ Q) X.xe s
def tOpS (r : L2.St → R2) (ta tb : TE) : TE := fun σ H Q => ta σ H fun x H1 => tb σ H1 fun y H2 => r σ x y H2 Q
section
variable {X : Cx} {pos : Pos} {ta tb : TE} {a b : Expr}
theorem pe_cmpS {op : CmpOp} {r : L2.St → R2} (ho : OpRS X (compareOp op) r) (ha : PE X a ta) (hb : PE X b tb) (hm : behindInMarks op b = false) : PE X (.Compare a [op] [b] pos) (tOpS r ta tb) :=
  ⟨fun pins s σ H Q I h => wpAny_Compare1 (binT ha hb I h fun _ _ t _ _ H' J k1 k2 q => ho pins t σ H' _ _ _ _ Q J k1 k2 q) hm⟩
theorem pt_cmpS {op : CmpOp} {r : L2.St → R2} (ho : OpRS X (compareOp op) r) (ha : PE X a ta) (hb : PE X b tb) (hm : behindInMarks op b = false) : PT X (.Compare a [op] [b] pos) (tTest (tOpS r ta tb)) := by
  constructor
  intro pins s σ H Q I h
  apply wpAny_isTrue_Compare1 _ hm
  apply thn (ha.run pins s σ H _ I h)
  rintro v s1 ⟨x, H1, I1, r1, q1⟩
  apply thn (hb.run pins s1 σ H1 _ I1 q1)
  rintro u s2 ⟨y, H2, I2, r2, q2⟩
  apply thn (ho pins s2 σ H2 x y v u _ I2 r1 r2 q2)
  rintro _ s3 ⟨_, H3, J, r3, k, rfl, q3⟩
  cases r3
  exact wpAny_truthy_bool ⟨H3, J, q3⟩
end
def OpMS (X : Cx) (ea : EA) (Wx : WX) (g : Value → Value → Sem Value) (f : RV → RV → Mo RV) : Prop :=
  ∃ r : L2.St → R2, OpRS X g r ∧ ∀ (σ : L2.St) (H : Hp) (io : List Addr) (Fr : Addr → Prop) (s : S), Sim X.K X.mg ea io Fr s σ H → ∀ x y vx vy, RvR X.K X.mg io (Ms io Fr s σ) σ H x vx → RvR X.K X.mg io (Ms io Fr s σ) σ H y vy →
    ∀ r0 s', f x y s = some (r0, s') → ∀ Q : VK, (∀ z, r0 = .ok z → ∀ v H' io', PostE X.K X.mg ea io Fr s σ H s' io' H' z v → Q v H') → (∀ z, r0 = .error z → ∀ cls d H' io', PostX X.K X.mg ea io Fr s σ H s' σ io' H' z cls d → Wx cls d σ H') → r σ vx vy H Q
def mBinS (f : RV → RV → Mo RV) (ma mb : Mo RV) : Mo RV := bnd ma fun x => bnd mb fun y => f (settle x) (settle y)
section
variable {K : PySem.W.Frag} {mg : Str → Option Value} {ea : EA} {io io' : List Addr} {Fr Fr' : Addr → Prop} {s s' s2 : S} {σ σ' : L2.St} {H H' : Hp} {w : W} {v : V} {c c' : Cell} {o o' : HO} {a p C : Addr} {ws : List W} {vs : List V} {M M' : Addr → Prop} {Wx : WX}
theorem ref_opS {ta tb : TE} {ma mb : Mo RV} {f : RV → RV → Mo RV} {r : L2.St → R2} (ha : RefE K mg ea Wx ta ma) (hb : RefE K mg ea Wx tb mb)
    (hr : ∀ (σ : L2.St) (H : Hp) (io : List Addr) (Fr : Addr → Prop) (s : S), Sim K mg ea io Fr s σ H → ∀ x y vx vy, RvR K mg io (Ms io Fr s σ) σ H x vx → RvR K mg io (Ms io Fr s σ) σ H y vy →
    ∀ r0 s', f x y s = some (r0, s') → ∀ Q : VK, (∀ z, r0 = .ok z → ∀ v H' io', PostE K mg ea io Fr s σ H s' io' H' z v → Q v H') → (∀ z, r0 = .error z → ∀ cls d H' io', PostX K mg ea io Fr s σ H s' σ io' H' z cls d → Wx cls d σ H') → r σ vx vy H Q) :
    RefE K mg ea Wx (tOpS r ta tb) (mBinS f ma mb) := by
  intro σ H io Fr s S0 r0 s' e Q hok hex
  refine bin2 ha hb S0 e hex fun x y s2 vx vy H2 io2 e4 S2 T2 rx ry => ?_
  exact hr σ H2 io2 Fr s2 S2 x y vx vy rx ry r0 s' e4 Q (fun z q v H' io' p => hok z q v H' io' (p.trans T2)) fun z q cls d H' io' p => hex z q cls d H' io' ⟨p.1, T2.trans p.2.1, p.2.2⟩
def chkO (nm : Str) (tys : List CT) : List W → Mo Unit
  | [x, y] => fun s => match derefW s x, (derefW s y).bind tyOfW with
    | some (.obj nm' _), some ct => if nm' = nm ∧ ct ∈ tys then some (.ok (), s) else none
    | _, _ => none
  | _ => stk
def chk1 (nm : Str) : List W → Mo Unit
  | x :: _ => fun s => match derefW s x with
    | some (.obj nm' _) => if nm' = nm then some (.ok (), s) else none
    | _ => none
  | _ => stk
def toBl (neg : Bool) : RV → Mo RV
  | .val (.bl b) => ret (.val (.bl (if neg then !b else b)))
  | _ => stk
def mIn2 (neg : Bool) (nm : Str) (m : Fn) (x y : RV) : Mo RV := bnd (freezeAll [y, x]) fun ws => bnd (chk1 nm ws) fun _ => bnd (callG m ws) (toBl neg)
noncomputable def toLen : RV → Mo RV
  | .val (.int n) => if Lk n then ret (.val (.int n)) else stk
  | _ => stk
noncomputable def mLenO (nm : Str) (m : Fn) (ms : Mo (List RV)) : Mo RV := bnd ms fun xs => bnd (freezeAll xs) fun ws => if ws.length = 1 then bnd (chk1 nm ws) fun _ => bnd (callG m ws) toLen else stk
theorem chk1_ok (S0 : Sim K mg ea io Fr s σ H) {nm : Str} (hC : mg nm = some (.ref C)) (R : Rws K mg io (Ms io Fr s σ) H ws vs) {r : Except Ex Unit} (e : chk1 nm ws s = some (r, s')) : s' = s ∧ r = .ok () ∧ ∃ a dx fs rest, vs = .ref a :: rest ∧ H a = some (.ins C dx fs) := by
  unfold chk1 at e
  split at e
  · rename_i x rest
    split at e
    · rename_i nm' fs hd
      split at e
      · rename_i hc
        subst hc
        cases e
        obtain ⟨v, r', rfl, h1, h2⟩ := R.cons_inv
        obtain ⟨a, C', dx, us, rfl, hm, hH, rk⟩ := (deref_ok S0 h1 hd).obj
        rw [hC] at hm
        cases hm
        exact ⟨rfl, rfl, a, dx, us, r', rfl, hH⟩
      · cases e
    · cases e
  · cases e
end
section
variable {X : Cx} {ea : EA} {Wx : WX} {m : Fn} {k n : Nat} {f C : Addr} {fd : FuncData} {ps : List Str} {nm : Str} {A1 : Around}
theorem Sub.env0 {pins : List (Addr × Obj)} {σ : L2.St} {H : Hp} {s : Shared} (sb : Sub X k A1) (I : Inv X pins σ H s) : Env0 X.prog X.w X.K X.mg X.base A1 X.stack s H :=
  { I.env0 with frames := sb.fr.trans I.env0.frames }
theorem inst_of {pins : List (Addr × Obj)} {σ : L2.St} {H : Hp} {s : Shared} {a dx : Addr} {fs : List (Str × V)} (I : Inv X pins σ H s) (h : H a = some (.ins C dx fs)) : ∃ o d, PySem.W.InstAt s.heap a o C d :=
  let ⟨_, J, _⟩ := ins_get I.hok h; let ⟨d, J, _⟩ := J.look; ⟨_, d, J⟩
theorem run_fnSub {pins : List (Addr × Obj)} {σ : L2.St} {H : Hp} {s : Shared} {Q : VK} {us : List Value} {vs : List V} (sb : Sub X k A1) (F : FnM X.prog X.w X.K X.mg X.base k f fd ps m) (hb : Binds X.K fd ps []) (tk : Takes X Wx)
    (I : Inv X pins σ H s) (r : Vals vs us) (h : spM X.K X.mg ps.length m vs H Q (WE Wx σ)) : wpAny (model X.prog X.w) A1 (call (.ref f) us) (EP X pins σ Q) X.xe s :=
  call_at I (F.ok.run A1 X.stack s H ⟨us, []⟩ us vs Q (WE Wx σ) sb.room (Sub.env0 sb I) (binds0 (n := 0) hb I (r.length.symm.trans h.1)) r h) fun e s' q => passAt tk σ pins H s e s' I q
variable {tys : List CT}
theorem spM_then {K : PySem.W.Frag} {mg : Str → Option Value} {io : List Addr} {Fr : Addr → Prop} {s s' : S} {σ : L2.St} {H : Hp} {ws : List W} {vs : List V} {g : RV → Mo RV} (S0 : Sim K mg ea io Fr s σ H) (R : Rws K mg io (Ms io Fr s σ) H ws vs) (hn : vs.length = n) {r : Except Ex RV} (e : bnd (callG m ws) g s = some (r, s')) {Q : VK}
    (hok : ∀ x s1, g x s1 = some (r, s') → ∀ v H' io', PostE K mg ea io Fr s σ H s1 io' H' x v → Q v H') (hex : ∀ x, r = .error x → ∀ cls d H' io', PostX K mg ea io Fr s σ H s' σ io' H' x cls d → Wx cls d σ H') : spM K mg n m vs H Q (WE Wx σ) := by
  rcases bnd_some e with ⟨x, e1, rfl⟩ | ⟨x, s1, e1, e2⟩
  · exact spM_use S0 R hn e1 (fun _ q => by cases q) fun x' q cls d H' io' p => by
      cases q
      exact hex _ rfl cls d H' io' p
  · exact spM_use S0 R hn e1 (fun x' q v H' io' p => by cases q; exact hok _ _ e2 v H' io' p) (fun _ q => by cases q)
theorem os_in (neg : Bool) (hC : X.mg nm = some (.ref C)) (F : FnM X.prog X.w X.K X.mg X.base k f fd ps m) (hp : ps.length = 2) (hr : Room k X.A) (hb : Binds X.K fd ps []) (tk : Takes X Wx)
    (hs : PySem.W.findIn X.K (.ref C) "__contains__" = some (some (.ref f))) (hf : PySem.W.isFn X.K (.ref f) = true) : OpMS X ea Wx (compareOp (if neg then .NotIn else .In)) (mIn2 neg nm m) := by
  refine ⟨fun σ x y H Q => ∃ a dx fs, y = .ref a ∧ H a = some (.ins C dx fs) ∧ spM X.K X.mg ps.length m [y, x] H (fun v H' => ∃ b, v = .bl b ∧ Q (.bl (if neg then !b else b)) H') (WE Wx σ), ?_, ?_⟩
  · rintro pins s σ H x y v u Q I rx ry ⟨a, dx, fs, rfl, ha, q⟩
    cases ry
    obtain ⟨oA, od, J⟩ := inst_of I ha
    obtain ⟨m0, hF⟩ := I.fr
    have run := run_fnSub (us := [.ref a, v]) (A1 := X.A) ⟨hr, rfl⟩ F hb tk I (.cons (show RelV (V.ref a) (Value.ref a) from rfl) (.cons rx .nil)) q
    cases neg with
    | false =>
      refine PySem.W.in_K hF I.ok.mod.kin J hs hf (wpAny_mono run (fun r s' hh => ?_) fun _ _ x => x)
      obtain ⟨z, H', I', rz, b, rfl, qq⟩ := hh
      cases rz
      exact wpAny_truthy_bool ⟨.bl b, H', I', rfl, qq⟩
    | true =>
      refine PySem.W.notIn_K hF I.ok.mod.kin J hs hf (wpAny_mono run (fun r s' hh => ?_) fun _ _ x => x)
      obtain ⟨z, H', I', rz, b, rfl, qq⟩ := hh
      cases rz
      exact wpAny_truthy_bool ⟨.bl (!b), H', I', rfl, qq⟩
  · intro σ H io Fr s S0 x y vx vy rx ry r0 s' e Q hok hex
    rcases bnd_some e with ⟨z, e3, _⟩ | ⟨ws, s2, e3, e4⟩
    · obtain ⟨_, _, _, _, q, _⟩ := freezeAll_ok S0 (.cons ry (.cons rx .nil)) e3
      cases q
    · obtain ⟨_, m2, S2, ws', q, r2⟩ := freezeAll_ok S0 (.cons ry (.cons rx .nil)) e3
      cases q
      rcases bnd_some e4 with ⟨z, e5, _⟩ | ⟨_, s3, e5, e6⟩
      · obtain ⟨_, q, _⟩ := chk1_ok S2 hC r2 e5
        cases q
      · obtain ⟨rfl, _, a, dx, fs, rest, hv, hH⟩ := chk1_ok S2 hC r2 e5
        cases hv
        have T2 : Stp io (Ms io Fr s σ) Fr H io (Ms io Fr s3 σ) H := Stp.refl.less m2
        refine ⟨a, dx, fs, rfl, hH, spM_then (n := ps.length) S2 r2 (by simp [hp]) e6 (fun z s1 e7 v H' io' px => ?_) fun x q cls d H' io' p => hex x q cls d H' io' ⟨p.1, T2.trans p.2.1, p.2.2⟩⟩
        unfold toBl at e7
        split at e7
        · rename_i b
          cases e7
          obtain ⟨S7, T7, R7⟩ := px
          cases R7
          exact ⟨b, rfl, hok _ rfl _ _ _ ⟨S7, T2.trans T7, .bl _⟩⟩
        · cases e7
end
section
variable {X : Cx} {ea : EA} {Wx : WX} {m : Fn} {k n : Nat} {f C : Addr} {fd : FuncData} {ps : List Str} {nm : Str} {a b e : Expr} {ma mb : Mo RV} {ms : Mo (List RV)} {pos p : Pos} {g : RV → RV → Mo RV}
theorem pee_cmpS {op : CmpOp} (ho : OpMS X ea Wx (compareOp op) g) (ha : Pee X ea Wx a ma) (hb : Pee X ea Wx b mb) (hm : behindInMarks op b = false := by with_unfolding_all rfl) : Pee X ea Wx (.Compare a [op] [b] pos) (mBinS g ma mb) :=
  let ⟨_, p, q⟩ := ho; let ⟨_, q1, r1⟩ := ha.ex; let ⟨_, q2, r2⟩ := hb.ex; ⟨_, pe_cmpS p q1 q2 hm, ref_opS r1 r2 q⟩
theorem pet_cmpS {op : CmpOp} (ho : OpMS X ea Wx (compareOp op) g) (ha : Pee X ea Wx a ma) (hb : Pee X ea Wx b mb) (hm : behindInMarks op b = false := by with_unfolding_all rfl) : Pet X ea Wx (.Compare a [op] [b] pos) (mB (mBinS g ma mb)) :=
  let ⟨_, p, q⟩ := ho; let ⟨_, q1, r1⟩ := ha.ex; let ⟨_, q2, r2⟩ := hb.ex; ⟨_, pt_cmpS p q1 q2 hm, ref_test (ref_opS r1 r2 q)⟩
theorem pee_lenO (hC : X.mg nm = some (.ref C)) (F : FnM X.prog X.w X.K X.mg X.base k f fd ps m) (hp : ps.length = 1) (hr : Room (k + 1) X.A) (hb : Binds X.K fd ps []) (tk : Takes X Wx)
    (hs : PySem.W.findIn X.K (.ref C) "__len__" = some (some (.ref f))) (hf : PySem.W.isFn X.K (.ref f) = true) (hm : X.mg "len" = none) (ha : Pea X ea Wx [e] ms) (hg : Gl X "len" := by rfl) (hv : bootBuiltins "len" = some (.builtin "len") := by decide +kernel)
    (he : starEach [e] X.env = (false, eval e X.env) :: starEach [] X.env := by rfl) (hpl : (backTo pos (starEach [] X.env)).any (·.1) = false := by rfl) : Pee X ea Wx (.Call (.Name "len" p) [e] [] pos) (mLenO nm m ms) := by
  obtain ⟨t, q1, r1⟩ := ha.ex
  refine ⟨fun σ H Q => t σ H fun vs H1 => ∃ a dx fs, vs = [.ref a] ∧ H1 a = some (.ins C dx fs) ∧ spM X.K X.mg ps.length m vs H1 (fun v H' => ∃ i, v = .int i ∧ 0 ≤ i ∧ i < 2 ^ 63 ∧ Q (.int i) H') (WE Wx σ), ⟨fun pins s σ H Q I h => ?_⟩, ?_⟩
  · refine wpAny_Call_Name_kw (ld_blt I hg hm hv ?_ (by decide) (by decide))
    refine PyProof.Rows.callWith_builtin1 (thn (q1.run pos pins s σ H _ I h) fun us s1 ⟨vs, H1, I1, rv, q⟩ => ?_) he hpl
    obtain ⟨a, dx, fs, rfl, ha, q⟩ := q
    obtain rfl := Vals.ref1 rv
    obtain ⟨mA, J, _⟩ := ins_get I1.hok ha
    obtain ⟨od, J, _⟩ := J.look
    obtain ⟨m0, hF⟩ := I1.fr
    refine PySem.W.len_K hF I1.ok.mod.kin J hs hf (wpAny_mono (run_fnSub (Sub.in1 ⟨hr, rfl⟩) F hb tk I1 rv q) (fun v s' hh => ?_) fun _ _ x => x)
    obtain ⟨z, H', I', rz, i, rfl, h0, h1, qq⟩ := hh
    obtain ⟨t, rfl⟩ := rz
    exact ⟨⟨h0, h1⟩, .int i, H', I'.tok _, ⟨_, rfl⟩, qq⟩
  · intro σ H io Fr s S0 r0 s' e Q hok hex
    refine arg2 r1 S0 e hex fun xs vs s1 H1 io1 e2 px R1 => ?_
    rcases bnd_some e2 with ⟨x, e3, rfl⟩ | ⟨ws, s2, e3, e4⟩
    · obtain ⟨_, _, _, _, q, _⟩ := freezeAll_ok px.1 R1 e3
      cases q
    · obtain ⟨_, m2, S2, ws', q, r2⟩ := freezeAll_ok px.1 R1 e3
      cases q
      have T2 := px.2.less m2
      split at e4
      case isFalse => cases e4
      rename_i h1l
      rcases bnd_some e4 with ⟨z, e5, _⟩ | ⟨_, s3, e5, e6⟩
      · obtain ⟨_, q, _⟩ := chk1_ok S2 hC r2 e5
        cases q
      · obtain ⟨rfl, _, a, dx, fs, rest, hv, hH⟩ := chk1_ok S2 hC r2 e5
        subst hv
        have hr0 : rest = [] := by
          have := r2.1
          rw [h1l] at this
          simp at this
          exact this
        subst hr0
        refine ⟨a, dx, fs, rfl, hH, spM_then (n := ps.length) S2 r2 (by simp [hp]) e6 (fun z s1 e7 v H' io' px => ?_) fun x q cls d H' io' p => hex x q cls d H' io' ⟨p.1, T2.trans p.2.1, p.2.2⟩⟩
        unfold toLen at e7
        split at e7
        · rename_i i
          split at e7
          · rename_i hi
            cases e7
            obtain ⟨S7, T7, R7⟩ := px
            cases R7
            exact ⟨i, rfl, hi.1, hi.2, hok _ rfl _ _ _ ⟨S7, T2.trans T7, .int _⟩⟩
          · cases e7
        · cases e7
end
end Z
set_option linter.all false
set_option Elab.async false
set_option maxRecDepth 100000
set_option maxHeartbeats 1000000
namespace Z
open PySem PySem.Spec PyProof.Rows
open L2 hiding XE Takes CX takes_of passes_call passAt MkP PMk ps_raise mk_of ps_try_as ps_try_many pmk_own Takes.imp
open L2N
structure Src where
  src : Addr
  len : Nat
  st : Addr → Nat → Heap → Prop
  fin : Addr → Option HO
  yl : Nat → V → Hp → Prop
  ok : Hp → Prop
def Src.at (S : Src) (it : Addr) (i : Nat) : HO := .ext (S.st it i)
def put (H : Hp) (a : Addr) (x : Option HO) : Hp := fun b => if b = a then x else H b
theorem put_ne {H : Hp} {a b : Addr} {x : Option HO} (h : b ≠ a) : put H a x b = H b := if_neg h
structure Steps (X : Cx) (A : Around) (it : Addr) (S : Src) : Prop where
  ty : ∀ {pins : List (Addr × Obj)} {σ : L2.St} {H : Hp} {s : Shared}, Inv X pins σ H s → H it = some (S.at it 0) → ∃ T i, s.TypeIs (.ref it) T ∧ Slot T "__next__" i
  more : ∀ {pins : List (Addr × Obj)} {σ : L2.St} {H : Hp} {s : Shared} {i : Nat} {Q : Option Value → Shared → Prop} {E : Value → Shared → Prop}, Inv X pins σ H s → H it = some (S.at it i) → S.ok H → i < S.len →
    (∀ v u s', S.yl i v H → RelV v u → Inv X pins σ (upd H it (S.at it (i + 1))) s' → Q (some u) s') → wpAny (model X.prog X.w) A (pyNext (.ref it)) Q E s
  last : ∀ {pins : List (Addr × Obj)} {σ : L2.St} {H : Hp} {s : Shared} {Q : Option Value → Shared → Prop} {E : Value → Shared → Prop}, Inv X pins σ H s → H it = some (S.at it S.len) → S.ok H →
    (∀ s', Inv X pins σ (put H it (S.fin it)) s' → Q none s') → wpAny (model X.prog X.w) A (pyNext (.ref it)) Q E s
def Src.all (S : Src) (ys : List V) (H : Hp) : Prop := ∀ j v, ys[j]? = some v → S.yl j v H
structure Mild (S : Src) : Prop where
  ok : ∀ {H H' : Hp}, S.ok H → H' S.src = H S.src → S.ok H'
  yl : ∀ {H H' : Hp} {i : Nat} {v : V}, S.yl i v H → (∀ b xs, H b = some (.tup xs) → H' b = some (.tup xs)) → S.yl i v H'
section
variable {X : Cx} {pins : List (Addr × Obj)} {σ : L2.St} {H : Hp} {s : Shared} {it l q : Addr} {zs : List V} {A A1 : Around} {E : Value → Shared → Prop}
theorem turn_of {P : Program} {w : World} {Rs : Result → Shared → Prop}
    (h : wpAny (model P w) A1.in1 (pyNext (.ref it)) (fun r s' => match r with
      | none => Rs (.ok (.ret .none)) s'
      | some u => wpAny (model P w) A1.in1 (updateSeq q (·.push u)) (fun _ s2 => codeAny (model P w) A1 (.builtin "list.extend.loop" ⟨[.ref q, .ref it, .none], []⟩) Rs s2) (fun e s2 => Rs (.error e) s2) s') (fun e s2 => Rs (.error e) s2) s) :
    codeAny (model P w) A1 (.builtin "list.extend.loop" ⟨[.ref q, .ref it, .none], []⟩) Rs s := by
  apply codeAny_builtin PySem.F.entry_extend_loop
  rw [Around.under_plainId PySem.F.plain_extend_loop ⟨[.ref q, .ref it, .none], []⟩]
  apply wpAny_bind (m := pyNext (.ref it))
  apply wpAny_mono h _ fun _ _ z => z
  rintro (_ | u) s' k
  · exact wpAny_pure k
  · exact wpAny_bind (m := updateSeq q (·.push u)) (wpAny_mono k (fun _ s2 z => wpAny_pure ⟨plainId_quiet PySem.F.plain_extend_loop _, z⟩) fun _ _ z => z)
def sofar (S : Src) (H0 : Hp) (it q : Addr) (i : Nat) (ys : List V) : Hp := upd (upd H0 it (S.at it i)) q (.lst ys)
theorem sofar_it {S : Src} {H0 : Hp} {i : Nat} {ys : List V} (ne : q ≠ it) : sofar S H0 it q i ys it = some (S.at it i) := by
  unfold sofar
  rw [upd_ne ne.symm, upd_same]
theorem sofar_other {S : Src} {H0 : Hp} {i : Nat} {ys : List V} {b : Addr} (h1 : b ≠ it) (h2 : b ≠ q) : sofar S H0 it q i ys b = H0 b := by
  unfold sofar
  rw [upd_ne h2, upd_ne h1]
theorem fill {S : Src} {H0 : Hp} {Rs : Result → Shared → Prop} (Y : Steps X A1.in1 it S) (ne : q ≠ it) (small : S.len ≤ sz) (okF : ∀ i ys, S.ok (sofar S H0 it q i ys)) (ylF : ∀ i ys j v, S.yl j v (sofar S H0 it q i ys) → S.yl j v H0)
    (done : ∀ s ys, ys.length = S.len → S.all ys H0 → Inv X pins σ (upd (put H0 it (S.fin it)) q (.lst ys)) s → Rs (.ok (.ret .none)) s) :
    ∀ (left i : Nat) (ys : List V) (s : Shared), i + left = S.len → ys.length = i → S.all ys H0 → Inv X pins σ (sofar S H0 it q i ys) s → codeAny (model X.prog X.w) A1 (.builtin "list.extend.loop" ⟨[.ref q, .ref it, .none], []⟩) Rs s := by
  intro left
  induction left with
  | zero =>
    intro i ys s e1 e2 al I
    have e1 : i = S.len := e1
    subst e1
    refine turn_of (Y.last I (sofar_it ne) (okF _ _) fun s' J => ?_)
    have same : put (sofar S H0 it q S.len ys) it (S.fin it) = upd (put H0 it (S.fin it)) q (.lst ys) := by
      funext b
      by_cases b1 : b = it
      · subst b1
        rw [upd_ne ne.symm]
        exact (if_pos rfl).trans (if_pos rfl).symm
      · rw [put_ne b1]
        by_cases b2 : b = q
        · subst b2
          unfold sofar
          rw [upd_same, upd_same]
        · rw [sofar_other b1 b2, upd_ne b2, put_ne b1]
    rw [same] at J
    exact done _ ys e2 al J
  | succ left ih =>
    intro i ys s e1 e2 al I
    refine turn_of (Y.more I (sofar_it ne) (okF _ _) (by omega) fun v u s' y r J => ?_)
    have here : upd (sofar S H0 it q i ys) it (S.at it (i + 1)) q = some (.lst ys) := by
      rw [upd_ne ne]
      exact upd_same
    obtain ⟨_, its, cap, r2, long, e⟩ := J.lstM here
    have room : its.length < sizeLine := by
      rw [sizeLine_eq]
      have : S.len ≤ 16777216 := small
      omega
    refine wpAny_updateSeq e rfl ?_ (by rw [List.size_toArray]; omega) (by show (its.toArray.push u).size ≤ _; rw [Array.size_push, List.size_toArray]; omega)
    refine ih (i + 1) (ys ++ [v]) _ (by omega) (by simp [e2]) (fun j x hj => ?_) ?_
    · by_cases jl : j < ys.length
      · rw [List.getElem?_append_left jl] at hj
        exact al j x hj
      · have je : j = i := by
          have := get_lt hj
          simp only [List.length_append, List.length_singleton] at this
          omega
        subst je
        rw [List.getElem?_append_right (by omega), e2, Nat.sub_self] at hj
        cases hj
        exact ylF _ _ _ _ y
    · have K := J.lset (f := (·.push u)) (its' := its ++ [u]) (t' := s'.toks) here e (by simp) (r2.append (.cons r .nil)) (by simp only [List.length_append, List.length_singleton]; omega)
      have same : upd (upd (sofar S H0 it q i ys) it (S.at it (i + 1))) q (.lst (ys ++ [v])) = sofar S H0 it q (i + 1) (ys ++ [v]) := by
        funext b
        by_cases b2 : b = q
        · subst b2
          rw [upd_same]
          exact upd_same.symm
        · by_cases b1 : b = it
          · subst b1
            rw [upd_ne b2, upd_same, sofar_it ne]
          · rw [upd_ne b2, upd_ne b1, sofar_other b1 b2, sofar_other b1 b2]
      rwa [same] at K
end
def spIt (C : Addr) (fl : Str) (mk : V → Src → Prop) : Sp := fun vs H Q _ => ∃ a dx fs u S, vs = [.ref a] ∧ H a = some (.ins C dx fs) ∧ fs.lookup fl = some u ∧ mk u S ∧ S.ok H ∧ ∀ it, H it = none → Q (.ref it) (upd H it (S.at it 0))
structure IterC (K : PySem.W.Frag) (C fi fl : Addr) : Prop where
  it : PySem.W.findIn K (.ref C) "__iter__" = some (some (.ref fi))
  itF : PySem.W.isFn K (.ref fi) = true
  ln : PySem.W.findIn K (.ref C) "__len__" = some (some (.ref fl))
  lnF : PySem.W.isFn K (.ref fl) = true
def askLen (K : PySem.W.Frag) (mg : Str → Option Value) (m : Fn) (S : Src) (a q it : Addr) (H : Hp) (Q : VK) : Prop :=
  spM K mg 1 m [.ref a] (upd H it (S.at it 0)) (fun v H2 => ∃ n : Int, v = .int n ∧ 0 ≤ n ∧ n ≤ sz ∧ H2 q = some (.lst []) ∧ H2 it = some (S.at it 0) ∧ S.ok H2 ∧ S.len ≤ sz ∧
    ∀ ys, ys.length = S.len → S.all ys H2 → Q (.ref q) (upd (put H2 it (S.fin it)) q (.lst ys))) E0
def rListO (K : PySem.W.Frag) (mg : Str → Option Value) (C : Addr) (fl : Str) (mk : V → Src → Prop) (m : Fn) : List V → Hp → VK → Prop := fun xs H Q => ∃ a dx fs u S, xs = [.ref a] ∧ H a = some (.ins C dx fs) ∧ fs.lookup fl = some u ∧ mk u S ∧ S.ok H ∧
  ∀ q it, H q = none → H it = none → q ≠ it → askLen K mg m S a q it (upd H q (.lst [])) Q
theorem hintO {M : Model} {A : Around} {E : Value → Shared → Prop} {Q : Bool → Shared → Prop} {K : PySem.W.Frag} {ox : Obj} {od : Option Obj} {a C fl : Addr} {s : Shared} (hl : PySem.W.findIn K (.ref C) "__len__" = some (some (.ref fl))) (hK : K.In s.heap) (J : PySem.W.InstAt s.heap a ox C od)
    (h : wpAny M A (call (.builtin "len") [.ref a]) (fun v s' => ∃ n t, v = .int n t ∧ 0 ≤ n ∧ n ≤ sz ∧ Q (n != 0) s') (fun _ _ => False) s) : wpAny M A (Builtin.List.listLengthHint (.ref a)) Q E s := by
  have few : ∀ n : Int, n ≤ sz → Builtin.List.listTooLong n.toNat = false := fun n hi => notLongL (by rw [sizeLine_eq]; have : n ≤ (16777216 : Nat) := hi; omega)
  unfold Builtin.List.listLengthHint
  refine wpAny_bind (wpAny_bind (J.type.here ((PySem.W.looks_findIn hK hl).here (PySem.W.KFB.if_not rfl (wpAny_ite_split (fun _ => wpAny_bind (wpAny_rule (wpAny_bind (wpAny_attempt (wpAny_mono h ?_ fun _ _ z => z.elim))))) fun no => absurd rfl no)))))
  rintro _ s' ⟨n, t, rfl, lo, hi, q⟩
  exact wpAny_bind (m := asInt? (.int n t)) (wpAny_pure (PySem.W.KFB.if_not (few n hi) (wpAny_pure q)))
section
variable {X : Cx} {ea : EA} {Wx : WX} {m : Fn} {k n : Nat} {f C : Addr} {fd : FuncData} {ps : List Str} {nm : Str} {A A1 : Around} {pins : List (Addr × Obj)} {σ : L2.St} {H : Hp} {s : Shared}
theorem call_un {Q : VK} {us : List Value} {vs : List V} {sp : Sp} {kk : Nat} (sb : Sub X kk A1) (F : FnOk X.prog X.w X.K X.mg X.base (L2N.CX X.prog X.w) kk f fd ps sp) (hb : Binds X.K fd ps []) (I : Inv X pins σ H s) (r : Vals vs us) (h : sp vs H Q E0) :
    wpAny (model X.prog X.w) A1 (call (.ref f) us) (fun u s' => ∃ v H', Inv X pins σ H' s' ∧ RelV v u ∧ Q v H' ∧ Un (frs X.stack) [] H H' s.heap s'.heap) (fun _ _ => False) s := by
  have all := F.run A1 X.stack s H ⟨us, []⟩ us vs Q E0 sb.room (Sub.env0 sb I) (binds0 (n := 0) hb I (by rw [← r.length]; exact F.len _ _ _ _ h)) r h
  refine wpAny_call (codeAny_mono all ?_)
  rintro (er | (_ | _ | _ | u)) s' q
  · obtain ⟨_, _, _, _, _, _, _, _, _, _, _, _, z⟩ := q
    exact z
  · exact q.elim
  · exact q.elim
  · exact q.elim
  · obtain ⟨v, H', J, rv, z⟩ := I.after (Q := fun v H' => Q v H' ∧ Un (frs X.stack) [] H H' s.heap s'.heap) (by
      obtain ⟨v, H', e1, e2, un, e4, rv, z⟩ := q
      exact ⟨v, H', e1, e2, un, e4, rv, z, un⟩)
    exact ⟨v, H', J, rv, z.1, z.2⟩
variable {fi flA : Addr} {fdI fdL : FuncData} {psI psL : List Str} {fl : Str} {mk : V → Src → Prop} {a q : Addr} {dx : Addr} {fs : List (Str × V)} {u : V} {S : Src} {Q : VK} {Rs : Result → Shared → Prop}
structure IterP (X : Cx) (C : Addr) (fl : Str) (mk : V → Src → Prop) (n : Nat) (m : Fn) (fi flA : Addr) (fdI fdL : FuncData) (psI psL : List Str) : Prop where
  cls : IterC X.K C fi flA
  FI : FnOk X.prog X.w X.K X.mg X.base (L2N.CX X.prog X.w) n fi fdI psI (spIt C fl mk)
  bI : Binds X.K fdI psI []
  FL : FnM X.prog X.w X.K X.mg X.base n flA fdL psL m
  one : psL.length = 1
  bL : Binds X.K fdL psL []
def Good (X : Cx) (A : Around) (mk : V → Src → Prop) : Prop := ∀ u S, mk u S → Mild S ∧ ∀ {pins : List (Addr × Obj)} {σ : L2.St} {H : Hp} {s : Shared}, Inv X pins σ H s → S.ok H → (∃ o, s.heap.get? S.src = some o) ∧ ∀ it, s.heap.get? it = none → Steps X A it S
theorem touch {M : Model} {E : Value → Shared → Prop} {P : PySem.Fin → Shared → Prop} {c : Sem PySem.Fin} {nm : String} (I : Inv X pins σ H s) (hq : H q = some (.lst [])) (k : ∀ s', Inv X pins σ H s' → wpAny M A c P E s') :
    wpAny M A (do rule nm; Builtin.List.listTouch (.ref q); c) P E s := by
  obtain ⟨_, its, cap, r, _, e⟩ := I.lstM hq
  cases r
  have J := I.lset (f := (·.push Value.none)) (its' := [Value.none]) (ys := [.non]) (t' := s.toks) hq e (by simp) (.cons rfl .nil) (by rw [List.length_singleton, sizeLine_eq]; decide)
  obtain ⟨_, its2, cap2, r2, _, e2⟩ := J.lstM upd_same
  obtain ⟨u2, rfl, _⟩ := r2.one
  have J2 := J.lset (f := (·.pop)) (its := [u2]) (its' := []) (ys := []) (t' := s.toks) upd_same e2 (by rfl) .nil (Nat.zero_le _)
  have same : upd (upd H q (.lst [.non])) q (.lst []) = H := by
    rw [upd_upd]
    funext b
    by_cases hb : b = q
    · rw [hb, upd_same, hq]
    · exact upd_ne hb
  rw [same] at J2
  refine wpAny_bind (wpAny_rule (wpAny_bind ?_))
  show wpAny M A (updateSeq q (·.push .none) >>= fun _ => updateSeq q (·.pop)) _ _ _
  exact wpAny_bind (wpAny_updateSeq e rfl (wpAny_updateSeq e2 rfl (k _ J2) (Nat.le_trans (by decide : 1 ≤ 1) (by rw [sizeLine_eq]; decide)) (Nat.zero_le _)))
theorem extendO (hh : A1.handled = none) (sb : Sub X (n + 1) A1.in1) (p : IterP X C fl mk n m fi flA fdI fdL psI psL) (good : Good X A1.in1 mk) (hmk : mk u S) (I : Inv X pins σ H s) (ha : H a = some (.ins C dx fs)) (hfl : fs.lookup fl = some u) (hq : H q = some (.lst [])) (ok : S.ok H) (nq : S.src ≠ q)
    (hs : ∀ it, H it = none → askLen X.K X.mg m S a q it H Q) (done : ∀ s' H', Inv X pins σ H' s' → Q (.ref q) H' → Rs (.ok (.ret .none)) s') :
    wpAny (model X.prog X.w) A1.in1 (Builtin.List.listExtendWith (.ref q) (.ref a) .none) (fun fin s' => match fin with
      | .done f => Rs (.ok f) s'
      | .again c => c.quiet = true ∧ codeAny (model X.prog X.w) A1 c Rs s') (fun e s' => Rs (.error e) s') s := by
  obtain ⟨mild, gd⟩ := good u S hmk
  have qa : q ≠ a := fun z => by rw [z, ha] at hq; cases hq
  have other : (Builtin.List.listSameRef (.ref q) (.ref a) || Value.ref C == Value.type "list" || Value.ref C == Value.type "tuple") = false := by
    rw [show Builtin.List.listSameRef (.ref q) (.ref a) = false from by simp [Builtin.List.listSameRef, qa]]
    rfl
  have self : Vals [V.ref a] [Value.ref a] := .cons rfl .nil
  obtain ⟨_, _, J⟩ := inst_of I ha
  obtain ⟨_, fr⟩ := I.fr
  unfold Builtin.List.listExtendWith
  refine wpAny_bind (J.type.here ?_)
  rw [if_neg (by rw [other]; exact Bool.false_ne_true)]
  refine wpAny_bind (PySem.W.owit_iter fr I.ok.mod.kin J p.cls.it p.cls.itF (wpAny_mono (call_un (Q := fun v H' => ∃ it, v = .ref it ∧ H it = none ∧ H' = upd H it (S.at it 0)) (sb.mono (Nat.le_succ n)) p.FI p.bI I self ⟨a, dx, fs, u, S, rfl, ha, hfl, hmk, ok, fun it z => ⟨it, rfl, z, rfl⟩⟩) ?_ fun _ _ z => z.elim))
  rintro _ s1 ⟨_, _, I1, r1, ⟨it, rfl, hit, rfl⟩, un⟩
  cases r1
  have new : s.heap.get? it = none := by
    cases e : s.heap.get? it with
    | none => rfl
    | some o =>
      have := un.free it o e hit (fun z => nomatch z)
      rw [upd_same] at this
      cases this
  obtain ⟨⟨oS, alive⟩, st⟩ := gd I ok
  have Y := st it new
  have ns : S.src ≠ it := fun z => by rw [z, new] at alive; cases alive
  have ni : q ≠ it := fun z => by rw [z, hit] at hq; cases hq
  have na : a ≠ it := fun z => by rw [z, hit] at ha; cases ha
  obtain ⟨T, im, ty, slot⟩ := Y.ty I1 upd_same
  unfold PySem.W.OwitIt
  refine wpAny_specialOf (name := Str.ofString "__next__") ty slot.lookup ?_
  have ha1 : upd H it (S.at it 0) a = some (.ins C dx fs) := by rw [upd_ne na]; exact ha
  obtain ⟨_, _, J1⟩ := inst_of I1 ha1
  obtain ⟨_, fr1⟩ := I1.fr
  have owed := hs it hit
  unfold askLen at owed
  rw [← p.one] at owed
  dsimp only
  refine wpAny_bind (wpAny_holding (hintO p.cls.ln I1.kIn J1 (PySem.W.len_K fr1 I1.ok.mod.kin J1 p.cls.ln p.cls.lnF (wpAny_mono (call_un (Sub.in1 sb) p.FL.ok p.bL I1 self owed) ?_ fun _ _ z => z))))
  rintro _ s2 ⟨_, H2, I2, r2, ⟨i, rfl, lo, hi, hq2, hi2, ok2, few, q2⟩, _⟩
  obtain ⟨t, rfl⟩ := r2
  have below : (i : Int) < 2 ^ 63 := by have : i ≤ (16777216 : Nat) := hi; omega
  refine ⟨⟨lo, below⟩, i, _, rfl, lo, hi, ?_⟩
  have run : ∀ s3, Inv X pins σ H2 s3 → codeAny (model X.prog X.w) A1 (.builtin "list.extend.loop" ⟨[.ref q, .ref it, .none], []⟩) Rs s3 := fun s3 I3 => by
    refine fill (S := S) (H0 := H2) Y ni few (fun i ys => mild.ok ok2 (sofar_other ns nq)) (fun i ys j v y => mild.yl y fun b xs e => ?_) (fun s4 ys e al I4 => done s4 _ I4 (q2 ys e al)) S.len 0 [] s3 (Nat.zero_add _) rfl (fun j v e => by simp at e) ?_
    · by_cases b1 : b = it
      · rw [b1, sofar_it ni] at e; cases e
      · by_cases b2 : b = q
        · subst b2
          unfold sofar at e
          rw [upd_same] at e; cases e
        · rwa [sofar_other b1 b2] at e
    · have same : sofar S H2 it q 0 [] = H2 := by
        funext b
        by_cases b2 : b = q
        · subst b2
          exact upd_same.trans hq2.symm
        · by_cases b1 : b = it
          · rw [b1, sofar_it ni, hi2]
          · exact sofar_other b1 b2
      rwa [same]
  have go : ∀ s3, Inv X pins σ H2 s3 → wpAny (model X.prog X.w) A1.in1 (again (.builtin "list.extend.loop" ⟨[.ref q, .ref it, .none], []⟩)) (fun fin s' => match fin with
      | .done f => Rs (.ok f) s'
      | .again c => c.quiet = true ∧ codeAny (model X.prog X.w) A1 c Rs s') (fun e s' => Rs (.error e) s') s3 := fun s3 I3 => wpAny_pure ⟨plainId_quiet PySem.F.plain_extend_loop _, run s3 I3⟩
  have I2' := I2.tok (s2.toks + 1)
  exact wpAny_ite_split (fun _ => touch I2' hq2 go) fun _ => go _ I2'
theorem call_listO (p : IterP X C fl mk n m fi flA fdI fdL psI psL) (good : Good X X.A.in1.in1 mk) (hr : Room (n + 3) X.A) : CallR X (.type "list") (rListO X.K X.mg C fl mk m) := by
  rintro pins s σ H xs us Q I rv ⟨a, dx, fs, u, S, rfl, ha, hfl, hmk, ok, hs⟩
  obtain ⟨_, rfl, ru⟩ := rv.one
  cases ru
  generalize hn : s.heap.objs.size = q at *
  have free : H q = none := I.hok.fresh (Nat.le_of_eq hn)
  obtain ⟨mild, gd⟩ := good u S hmk
  have nq : S.src ≠ q := fun z => by
    obtain ⟨o, e⟩ := (gd I ok).1
    rw [z] at e
    have lt := Heap.lt_size e
    rw [hn] at lt
    exact Nat.lt_irrefl _ lt
  let s1 : Shared := { s with heap := s.heap.push { cls := .type "list", data := .seq #[] } }
  have laid : s1.heap.get? q = some { cls := .type "list", data := .seq #[] } := by rw [← hn]; exact Heap.get?_push_size _ rfl
  have I1 : Inv X pins σ (upd H q (.lst [])) s1 := by rw [← hn]; exact I.lnew (its := []) (t' := s.toks) .nil (Nat.zero_le _)
  have I2 := I1.lset (f := fun _ => #[]) (its := []) (its' := []) (ys := []) (t' := s.toks) upd_same laid rfl .nil (Nat.zero_le _)
  rw [upd_upd] at I2
  refine callType_codes (Q₁ := fun obj s2 => obj = .ref q ∧ s2 = s1) PySem.F.called_list (PySem.F.typeCall_list_1 _) PySem.F.entry_list_init (code_list_new _ ⟨by rw [← hn], rfl⟩) ?_
  rintro _ _ ⟨rfl, rfl⟩
  refine ⟨⟨_, laid, rfl⟩, PySem.F.args_list_init_2 _ _, ?_⟩
  show wpAny _ _ (Builtin.List.listItems (.ref q) >>= fun old => updateSeq q (fun _ => #[]) >>= fun _ => letGo old.toList.reverse >>= fun _ => Builtin.List.listExtendWith (.ref q) (.ref a) .none) _ _ _
  have items : ∀ {P : Array Value → Shared → Prop} {E : Value → Shared → Prop}, P #[] s1 → wpAny (model X.prog X.w) X.A.in1.in1 (Builtin.List.listItems (.ref q)) P E s1 := fun h => by
    unfold Builtin.List.listItems
    exact wpAny_bind (wpAny_seqItems laid rfl (wpAny_pure h))
  refine wpAny_bind (items (wpAny_bind (wpAny_updateSeq laid rfl (f := fun _ => #[]) (wpAny_bind (wpAny_letGo ?_)) (Nat.zero_le _) (Nat.zero_le _))))
  exact extendO (A1 := X.A.in1) (Rs := wants (fun r s₂ => r = .none ∧ EP X pins σ Q (.ref q) s₂) X.xe) (by exact hr.hd) (Sub.in1 (Sub.in1 (⟨hr, rfl⟩ : Sub X (n + 3) X.A))) p good hmk I2 (by rw [upd_ne (ne_of_none ha free)]; exact ha) hfl upd_same (mild.ok ok (upd_ne nq)) nq
    (fun it z => hs q it free (by
      by_cases e : it = q
      · rw [e, upd_same] at z; cases z
      · rwa [upd_ne e] at z) fun e => by rw [← e, upd_same] at z; cases z)
    fun s' H' I' z => ⟨rfl, .ref q, H', I', rfl, z⟩
end
end Z
set_option Elab.async false
set_option linter.all false
set_option maxRecDepth 100000
namespace Z
open PySem PySem.Spec PyProof.Rows
open L2 hiding XE Takes CX takes_of passes_call passAt MkP PMk ps_raise mk_of ps_try_as ps_try_many pmk_own Takes.imp
open L2N
section
variable {K : PySem.W.Frag} {mg : Str → Option Value} {ea : EA} {io io' : List Addr} {Fr Fr' Fr2 : Addr → Prop} {s s' s2 : S} {σ σ' : L2.St} {H H' : Hp} {w : W} {v : V} {c c' : Cell} {o o' : HO} {a p C : Addr} {ws : List W} {vs : List V} {M M' : Addr → Prop} {Wx : WX}
theorem Sim.change (x : Sim K mg ea io Fr' s σ H) (sub : ∀ b, Fr2 b → Fr' b) (keep : ∀ b o, H b = some o → ¬ Ms io Fr' s σ b → H' b = some o)
    (same : ∀ b, (b ∈ io ∨ ∃ (i : Nat) (c : Cell), s.r[i]? = some (.own c) ∧ σ[i]? = some (some (V.ref b))) → H' b = H b) (tr : ∀ b, Fr2 b → ∃ o, H' b = some o ∧ Nt o) : Sim K mg ea io Fr2 s σ H' := by
  have q : Pers io (Ms io Fr' s σ) H io (Ms io Fr2 s σ) H' := ⟨keep, fun b z => .inl (Ms.mono sub b z), fun _ _ e => e⟩
  refine ⟨x.len, ⟨x.g.len, fun n b c h1 h2 => ?_, x.g.nd, fun b hb z => x.g.dj b hb (FrO.mono sub b z), fun b z => ?_⟩, fun i u e => ?_, fun i d e => ?_, x.dist, fun i y e => ?_⟩
  · obtain ⟨o, h3, h4⟩ := x.g.cell n b c h1 h2
    exact ⟨o, by rw [same b (.inl (List.mem_of_getElem? h1))]; exact h3, h4.pers q⟩
  · rcases z with z | ⟨i, d, h1, h2⟩
    · exact tr b z
    · obtain ⟨b', o, k1, k2, k3, _⟩ := x.own i d h1
      rw [h2] at k1; cases k1
      exact ⟨o, by rw [same b (.inr ⟨i, d, h1, h2⟩)]; exact k2, k3.nt⟩
  · obtain ⟨v, h1, h2⟩ := x.val i u e
    exact ⟨v, h1, h2.pers q⟩
  · obtain ⟨b, o, h1, h2, h3, h4⟩ := x.own i d e
    exact ⟨b, o, h1, by rw [same b (.inr ⟨i, d, e, h1⟩)]; exact h2, h3.pers q, fun z => h4 (sub b z)⟩
  · obtain ⟨h1, h2⟩ := x.exc i y e
    exact ⟨h1, h2.pers q⟩
def fldS (nm fl : Str) (rd : W → Option (List W)) : W → Option (List W)
  | .obj nm' fs => if nm' = nm then (fs.lookup fl).bind rd else none
  | _ => none
def listO (nm fl : Str) (rd : W → Option (List W)) (m : Fn) : List W → Mo RV
  | [w] => fun s => match (derefW s w).bind (fldS nm fl rd) with
    | some zs => (match callG m [w] s with
      | some (.ok (.val (.int n)), s') => if 0 ≤ n ∧ n ≤ sz then some (.ok (.own (.lst zs)), s') else none
      | _ => none)
    | none => none
  | _ => stk
def mListS (nm fl : Str) (rd : W → Option (List W)) (m : Fn) (ms : Mo (List RV)) : Mo RV := bnd ms fun xs => bnd (freezeAll xs) fun ws => listO nm fl rd m ws
def RdOk (K : PySem.W.Frag) (mg : Str → Option Value) (mk : V → Src → Prop) (rd : W → Option (List W)) : Prop := ∀ {io : List Addr} {M : Addr → Prop} {H : Hp} {w : W} {v : V} {zs : List W}, Rw K mg io M H w v → rd w = some zs →
  ∃ S, mk v S ∧ S.ok H ∧ S.len = zs.length ∧ zs.length ≤ sz ∧ ∀ {io' : List Addr} {M' : Addr → Prop} {H' : Hp}, Pers io M H io' M' H' → (∀ b, M' b → ∃ o, H' b = some o ∧ Nt o) → S.ok H' ∧ ∀ ys, ys.length = S.len → S.all ys H' → Rws K mg io' M' H' zs ys
theorem fldS_ok {nm fl : Str} {mk : V → Src → Prop} {rd : W → Option (List W)} {zs : List W} (hC : mg nm = some (.ref C)) (ok : RdOk K mg mk rd) (R : Rn K mg io M H w v) (e : fldS nm fl rd w = some zs) : ∃ a dx fs u S, v = .ref a ∧ H a = some (.ins C dx fs) ∧ fs.lookup fl = some u ∧ mk u S ∧ S.ok H ∧ S.len = zs.length ∧ zs.length ≤ sz ∧
    ∀ {io' : List Addr} {M' : Addr → Prop} {H' : Hp}, Pers io M H io' M' H' → (∀ b, M' b → ∃ o, H' b = some o ∧ Nt o) → S.ok H' ∧ ∀ ys, ys.length = S.len → S.all ys H' → Rws K mg io' M' H' zs ys := by
  unfold fldS at e
  split at e
  · rename_i nm' fs
    split at e
    · rename_i hn
      subst hn
      obtain ⟨a, C', dx, us, rfl, hm, hH, rk⟩ := R.obj
      rw [hC] at hm
      cases hm
      obtain ⟨x, hlk, hx⟩ := Option.bind_eq_some_iff.mp e
      obtain ⟨u, h1, h2⟩ := Rkv.lookup (vs := us) rk hlk
      obtain ⟨S, g⟩ := ok h2 hx
      exact ⟨a, dx, us, u, S, rfl, hH, h1, g⟩
    · cases e
  · cases e
theorem ref_listS {nm fl : Str} {mk : V → Src → Prop} {rd : W → Option (List W)} {m : Fn} {t : TA} {ms : Mo (List RV)} (hC : mg nm = some (.ref C)) (rok : RdOk K mg mk rd) (ha : RefA K mg ea Wx t ms) : RefE K mg ea Wx (fun σ H Q => t σ H fun vs H1 => rListO K mg C fl mk m vs H1 Q) (mListS nm fl rd m ms) := by
  intro σ H io Fr s S0 r0 s' e Q hok hex
  refine arg2 ha S0 e hex fun xs vs s1 H1 io1 e2 px R1 => ?_
  rcases bnd_some e2 with ⟨x, e3, rfl⟩ | ⟨ws, s2, e3, e4⟩
  · obtain ⟨_, _, _, _, q, _⟩ := freezeAll_ok px.1 R1 e3
    cases q
  · obtain ⟨_, m2, S2, ws', q, r2⟩ := freezeAll_ok px.1 R1 e3
    cases q
    have T2 := px.2.less m2
    unfold listO at e4
    split at e4
    case h_2 => cases e4
    rename_i w
    split at e4
    case h_2 => cases e4
    rename_i zs hzs
    split at e4
    case h_2 => cases e4
    rename_i n s3 hcall
    split at e4
    case isFalse => cases e4
    rename_i hn
    cases e4
    obtain ⟨wv, k1, k2⟩ := Option.bind_eq_some_iff.mp hzs
    obtain ⟨v, rr, rfl, h1, h2⟩ := r2.cons_inv
    obtain rfl := h2.nil_inv
    obtain ⟨a, dx, fs, u, Z, rfl, hH, hlk, hmk, hz, hlen, few, stay⟩ := fldS_ok hC rok (deref_ok S2 h1 k1) k2
    refine ⟨a, dx, fs, u, Z, rfl, hH, hlk, hmk, hz, fun q it hq hit hne => ?_⟩
    obtain ⟨S3, T3, nf3⟩ := S2.alloc (o := .lst []) hq
    have hit3 : upd H1 q (.lst []) it = none := by rw [upd_ne (Ne.symm hne)]; exact hit
    obtain ⟨S4, T4, nf4⟩ := S3.alloc (o := Z.at it 0) hit3
    have T34 : Stp io1 (Ms io1 Fr s2 σ) Fr H1 io1 (Ms io1 (pls (pls Fr q) it) s2 σ) (upd (upd H1 q (.lst [])) it (Z.at it 0)) := T3.trans (T4.frless fun b z => .inl z)
    have R4 := r2.pers T34.p
    refine spM_use (n := 1) (Wx := fun _ _ _ _ => False) (σ := σ) S4 R4 rfl hcall (fun x q' v H2 io2 p2 => ?_) (fun _ q' => by cases q')
    cases q'
    obtain ⟨S5, T5, R5⟩ := p2
    cases R5
    have hq2 : H2 q = some (.lst []) := by rw [T5.fr q (.inl (.inr rfl)), upd_ne hne, upd_same]
    have hi2 : H2 it = some (Z.at it 0) := by rw [T5.fr it (.inr rfl), upd_same]
    have T35 := T34.trans (T5.frless (Fr' := Fr) fun b z => .inl (.inl z))
    obtain ⟨okZ, rows⟩ := stay T35.p fun b z => S5.trkN z
    refine ⟨n, rfl, hn.1, hn.2, hq2, hi2, okZ, by rw [hlen]; exact few, fun vs lv al => ?_⟩
    have nio : ∀ b, (b = q ∨ b = it) → ¬ (b ∈ io2 ∨ ∃ (i : Nat) (c : Cell), s'.r[i]? = some (.own c) ∧ σ[i]? = some (some (V.ref b))) := fun b hb z => by
      have hF : pls (pls Fr q) it b := hb.elim (fun e => .inl (.inr e)) .inr
      rcases z with z | ⟨i, c, h1, h2⟩
      · exact S5.g.dj b z (.inl hF)
      · obtain ⟨b', o, k1, _, _, k4⟩ := S5.own i c h1
        rw [h2] at k1; cases k1
        exact k4 hF
    have nFr : ∀ b, (b = q ∨ b = it) → ¬ Fr b := fun b hb z => by
      obtain ⟨o, ho, _⟩ := S2.g.fr b (.inl z)
      rcases hb with rfl | rfl
      · rw [hq] at ho; cases ho
      · rw [hit] at ho; cases ho
    have S6 : Sim K mg ea io2 (pls Fr q) s' σ (upd (put H2 it (Z.fin it)) q (.lst vs)) := by
      refine S5.change (fun b z => .inl z) (fun b o hb hM => ?_) (fun b hb => ?_) (fun b z => ?_)
      · have n1 : b ≠ q := fun z => hM (.inr (.inl (.inl (.inr z))))
        have n2 : b ≠ it := fun z => hM (.inr (.inl (.inr z)))
        rw [upd_ne n1, put_ne n2]; exact hb
      · have n1 : b ≠ q := fun z => nio b (.inl z) hb
        have n2 : b ≠ it := fun z => nio b (.inr z) hb
        rw [upd_ne n1, put_ne n2]
      · rcases z with z | z
        · have n1 : b ≠ q := fun e => nFr b (.inl e) z
          have n2 : b ≠ it := fun e => nFr b (.inr e) z
          obtain ⟨o, ho, n⟩ := S5.g.fr b (.inl (.inl (.inl z)))
          exact ⟨o, by rw [upd_ne n1, put_ne n2]; exact ho, n⟩
        · exact ⟨_, by rw [z, upd_same], by intro _ z; cases z⟩
    have T6 : Stp io1 (Ms io1 Fr s2 σ) Fr H1 io2 (Ms io2 (pls Fr q) s' σ) (upd (put H2 it (Z.fin it)) q (.lst vs)) := by
      refine ⟨⟨fun b o hb hM => ?_, fun b z => T35.p.new b (Ms.mono (fun b z => .inl z) b z), T35.p.ext⟩, fun b z => ?_, fun b o hb => ?_⟩
      · have n1 : b ≠ q := fun e => by subst e; rw [hq] at hb; cases hb
        have n2 : b ≠ it := fun e => by subst e; rw [hit] at hb; cases hb
        rw [upd_ne n1, put_ne n2]; exact T35.p.keep b o hb hM
      · have n1 : b ≠ q := fun e => nFr b (.inl e) z
        have n2 : b ≠ it := fun e => nFr b (.inr e) z
        rw [upd_ne n1, put_ne n2]; exact T35.fr b z
      · have n1 : b ≠ q := fun e => by subst e; rw [hq] at hb; cases hb
        have n2 : b ≠ it := fun e => by subst e; rw [hit] at hb; cases hb
        rw [upd_ne n1, put_ne n2]; exact T35.trk b o hb
    have p6 : Pers io2 (Ms io2 (pls (pls Fr q) it) s' σ) H2 io2 (Ms io2 (pls Fr q) s' σ) (upd (put H2 it (Z.fin it)) q (.lst vs)) := by
      refine ⟨fun b o hb hM => ?_, fun b z => .inl (Ms.mono (fun b z => .inl z) b z), fun _ _ e => e⟩
      have n1 : b ≠ q := fun z => hM (.inr (.inl (.inl (.inr z))))
      have n2 : b ≠ it := fun z => hM (.inr (.inl (.inr z)))
      rw [upd_ne n1, put_ne n2]; exact hb
    refine hok _ rfl _ _ io2 ⟨q, .lst vs, rfl, upd_same, fun z => ?_, S6, T2.trans T6, vs, rfl, (rows vs lv al).pers p6⟩
    rcases z with z | z
    · exact nFr q (.inl rfl) z
    · exact nio q (.inl rfl) (.inr z)
end
section
variable {X : Cx} {ea : EA} {Wx : WX} {m : Fn} {k n : Nat} {f C fi flA : Addr} {fdI fdL : FuncData} {psI psL : List Str} {nm fl : Str} {e : Expr} {ms : Mo (List RV)} {pos p : Pos} {mk : V → Src → Prop} {rd : W → Option (List W)}
theorem pee_listS (hC : X.mg nm = some (.ref C)) (rok : RdOk X.K X.mg mk rd) (good : Good X X.A.in1.in1 mk) (pt : IterP X C fl mk n m fi flA fdI fdL psI psL) (hr : Room (n + 3) X.A) (hm : X.mg "list" = none) (ha : Pea X ea Wx [e] ms) (hg : Gl X "list" := by rfl) (hv : bootBuiltins "list" = some (.type "list") := by decide +kernel)
    (st : starEach [e] X.env = (false, eval e X.env) :: starEach [] X.env := by rfl) (npl : (backTo pos (starEach [] X.env)).any (·.1) = false := by rfl) : Pee X ea Wx (.Call (.Name "list" p) [e] [] pos) (mListS nm fl rd m ms) :=
  let ⟨_, q1, r1⟩ := ha.ex; ⟨_, pe_callTy (call_listO pt good hr) hg hm hv q1 (by decide) (by decide) st npl, ref_listS hC rok r1⟩
end
end Z
set_option Elab.async false
set_option linter.all false
set_option maxRecDepth 100000
namespace Z
open PySem PySem.Spec PyProof.Rows
open L2 hiding XE Takes CX takes_of passes_call passAt MkP PMk ps_raise mk_of ps_try_as ps_try_many pmk_own Takes.imp
open L2N
theorem defItS {P : Program} {w : World} {K : PySem.W.Frag} {mg : Str → Option Value} {base : Heap} {x qual fl self : Str} {st : Stmt} {f C : Addr} {fd : FuncData} {p1 p2 p3 p4 p5 : Pos} {mk : V → Src → Prop} (F : Fun K x qual st f fd) (S : FnScope [self] [self] (defScope st))
    (hb : defBody st = [.Return (some (.Call (.Name "iter" p1) [.Attribute (.Name self p2) fl p3] [] p4)) p5]) (hC : Cls K C) (hno : NoAttr K C fl) (hm : mg "iter" = none)
    (hloc : (defScope st).names.lookup self = some .local) (hgl : ∀ (n : Addr) (cd : Value), (envOfC qual (defScope st) n f cd).kindOf "iter" = some .globalImplicit)
    (hat : ∀ env, attributeBase (.Name self p2) fl env (eval (.Name self p2) env) = eval (.Name self p2) env) (hst : ∀ env, starEach [.Attribute (.Name self p2) fl p3] env = (false, eval (.Attribute (.Name self p2) fl p3) env) :: starEach [] env)
    (ci : ∀ X : Cx, X.K = K → CallR X (.builtin "iter") fun xs H Q => ∃ u Z, xs = [u] ∧ mk u Z ∧ Z.ok H ∧ ∀ it, H it = none → Q (.ref it) (upd H it (Z.at it 0)))
    (hd : (self == ("__debug__" : Str)) = false := by decide) (hcd : (self == ("__classdict__" : Str)) = false := by decide) : FnOk P w K mg base (L2N.CX P w) 1 f fd [self] (spIt C fl mk) := by
  refine okN F S (by rintro vs H Q E ⟨_, _, _, _, _, rfl, _⟩; rfl) fun cdv A outer s H vs Q E hr h => ?_
  obtain ⟨a, dx, fs, u, Z, rfl, ha, hlk, hmk, ok, q⟩ := h
  rw [hb]
  let X := cxOf (L2N.CX P w) P w K mg base [self] qual (defScope st) f cdv A outer s H E
  have me : PE X (.Name self p2) (tVar 0) := pe_var rfl (.inl hloc) hd hcd
  have call := pe_callB (X := X) (p := p1) (pos := p4) (x := "iter") (ci X rfl) (hgl _ _) hm (by decide +kernel) (pa_cons (pe_fld (f := fl) (pos := p3) me (hat _)) pa_nil (hst _)) (by decide) (by decide) (hst _) rfl
  exact ⟨_, pss_one (ps_ret call), .ref a, rfl, a, C, dx, fs, u, rfl, ha, hC, hno, hlk, u, Z, rfl, hmk, ok, fun it hit => q it hit⟩
end Z
set_option Elab.async false
set_option linter.all false
set_option maxRecDepth 100000
namespace Z
open PySem PySem.Spec PyProof.Rows
open L2 hiding XE Takes CX takes_of passes_call passAt MkP PMk ps_raise mk_of ps_try_as ps_try_many pmk_own Takes.imp
open L2N
section
variable {K : PySem.W.Frag} {mg : Str → Option Value} {ea : EA} {io io' : List Addr} {Fr Fr' Fr2 : Addr → Prop} {s s' s2 : S} {σ σ' : L2.St} {H H' : Hp} {w : W} {v : V} {c c' : Cell} {o o' : HO} {a p C : Addr} {ws : List W} {vs : List V} {M M' : Addr → Prop} {Wx : WX}
theorem ms_cell : ∀ b, Ms (io ++ [a]) Fr { s with G := s.G ++ [c] } σ b → Ms io (pls Fr a) s σ b := fun b z => by
  rcases z with z | z
  · rcases List.mem_append.mp z with z | z
    · exact .inl z
    · exact .inr (.inl (.inr (by simpa using z)))
  · exact .inr (FrO.mono (fun b z => .inl z) b z)
theorem Sim.cell (x : Sim K mg ea io (pls Fr a) s σ H) (ha : H a = some o) (nf : ¬ FrO Fr s.r σ a) (hc : Rc K mg io (Ms io (pls Fr a) s σ) H c o) :
    Sim K mg ea (io ++ [a]) Fr { s with G := s.G ++ [c] } σ H ∧ Stp io (Ms io (pls Fr a) s σ) (pls Fr a) H (io ++ [a]) (Ms (io ++ [a]) Fr { s with G := s.G ++ [c] } σ) H := by
  have q : Pers io (Ms io (pls Fr a) s σ) H (io ++ [a]) (Ms (io ++ [a]) Fr { s with G := s.G ++ [c] } σ) H := ⟨fun _ _ h _ => h, fun b z => .inl (ms_cell b z), fun n b h => by rw [List.getElem?_append_left (get_lt h)]; exact h⟩
  have nio : a ∉ io := fun z => x.g.dj a z (.inl (.inr rfl))
  refine ⟨⟨x.len, ⟨by simp [x.g.len], fun n b d h1 h2 => ?_, ?_, fun b hb z => ?_, fun b z => x.g.fr b (FrO.mono (fun b z => .inl z) b z)⟩, fun i u e => ?_, fun i d e => ?_, x.dist, fun i y e => ?_⟩, q, fun b z => rfl, fun b u e => ⟨u, e⟩⟩
  · rcases Nat.lt_or_ge n io.length with hn | hn
    · rw [List.getElem?_append_left hn] at h1
      rw [List.getElem?_append_left (by rw [← x.g.len]; exact hn)] at h2
      obtain ⟨o, h3, h4⟩ := x.g.cell n b d h1 h2
      exact ⟨o, h3, h4.pers q⟩
    · rw [List.getElem?_append_right hn] at h1
      rw [List.getElem?_append_right (by rw [← x.g.len]; exact hn)] at h2
      rw [← x.g.len] at h2
      cases k : n - io.length with
      | zero =>
        rw [k] at h1 h2
        simp at h1 h2
        subst h1 h2
        exact ⟨o, ha, hc.pers q⟩
      | succ m => rw [k] at h1; simp at h1
  · rw [List.nodup_append]
    exact ⟨x.g.nd, by simp, fun b hb c hc => by simp at hc; subst hc; exact fun z => nio (z ▸ hb)⟩
  · rcases List.mem_append.mp hb with hb | hb
    · exact x.g.dj b hb (FrO.mono (fun b z => .inl z) b z)
    · simp at hb
      subst hb
      exact nf z
  · obtain ⟨v, h1, h2⟩ := x.val i u e
    exact ⟨v, h1, h2.pers q⟩
  · obtain ⟨b, o, h1, h2, h3, h4⟩ := x.own i d e
    exact ⟨b, o, h1, h2, h3.pers q, fun z => h4 (.inl z)⟩
  · obtain ⟨h1, h2⟩ := x.exc i y e
    exact ⟨h1, h2.pers q⟩
def toCell : RV → Mo RV
  | .own c => fun s => some (.ok (.val (.ref s.G.length)), { s with G := s.G ++ [c] })
  | _ => stk
def mCell (m : Mo RV) : Mo RV := bnd m toCell
theorem ref_cell {t : TE} {m : Mo RV} (h : RefE K mg ea Wx t m) : RefE K mg ea Wx t (mCell m) := by
  intro σ H io Fr s S0 r0 s' e Q hok hex
  rcases bnd_some e with ⟨x, e1, rfl⟩ | ⟨x, s1, e1, e2⟩
  · exact h σ H io Fr s S0 _ _ e1 _ (fun _ q => by cases q) fun x' q cls d H' io' px => by
      cases q
      exact hex _ rfl cls d H' io' px
  · refine h σ H io Fr s S0 _ _ e1 _ (fun x' q v H1 io1 px => ?_) (fun _ q => by cases q)
    cases q
    cases x with
    | val w => cases e2
    | hnd i => cases e2
    | own c =>
      cases e2
      obtain ⟨a, o, rfl, ha, nf, S1, T1, R1⟩ := px
      obtain ⟨S2, T2⟩ := S1.cell ha nf R1
      refine hok _ rfl _ H1 _ ⟨S2, T1.trans (T2.frless fun b z => .inl z), .ref ?_⟩
      rw [← S1.g.len]
      simp
end
section
variable {X : Cx} {ea : EA} {Wx : WX} {e : Expr} {m : Mo RV} {x : Str} {pos : Pos}
theorem pee_cell (h : Pee X ea Wx e m) : Pee X ea Wx e (mCell m) := let ⟨_, p, r⟩ := h.ex; ⟨_, p, ref_cell r⟩
theorem pee_gint {i : Int} (hm : ∃ t, X.mg x = some (.int i t)) (hg : Gl X x := by rfl) (hd : (x == ("__debug__" : Str)) = false := by decide) : Pee X ea Wx (.Name x pos) (mC (.int i)) :=
  let ⟨_, h⟩ := hm; ⟨_, pe_glob (v := .int i) hg h ⟨_, rfl⟩ hd, ref_c fun _ _ _ => .int i⟩
end
end Z
set_option Elab.async false
set_option linter.all false
set_option maxRecDepth 100000
namespace Z
open PySem PySem.Spec PyProof.Rows
open L2 hiding XE Takes CX takes_of passes_call passAt MkP PMk ps_raise mk_of ps_try_as ps_try_many pmk_own Takes.imp
open L2N
theorem hu64 {n : Nat} (h : n + 150 < cLine) : n + 64 < cLine := by omega
theorem hu65 {n : Nat} (h : n + 150 < cLine) : n + 65 < cLine := by omega
theorem hu1 {n : Nat} (h : n + 150 < cLine) : n + 1 < cLine := by omega
theorem tk0 {X : Cx} : Takes X W0 := fun u s' x => by
  obtain ⟨a, B, sI, pins, σ, H, cls, d, _, _, _, _, _, _, _, _, w⟩ := x
  exact w.elim
theorem rmw {j k : Nat} {A : Around} {h : Option Value} (r : Room k A) (l : j ≤ k) : L2H.RoomH j (A.mark h) := (L2H.RoomH.mono (L2H.roomH_of r) l : L2H.RoomH j A) |> fun q => ⟨q.dp, q.un⟩
theorem FnM.mono {P : Program} {w : World} {K : PySem.W.Frag} {mg : Str → Option Value} {base : Heap} {j k : Nat} {f : Addr} {fd : FuncData} {ps : List Str} {m : Fn} (F : FnM P w K mg base j f fd ps m) (h : j ≤ k) : FnM P w K mg base k f fd ps m := ⟨F.ok.mono h⟩
section
variable {K : PySem.W.Frag} {mg : Str → Option Value} {C : Addr}
theorem ClsN.nil {f : Str} : ClsN K mg [] f := fun nm h => by cases h
theorem ClsN.cons {f nm : Str} {nms : List Str} (hm : mg nm = some (.ref C)) (c : Cls K C) (n : NoAttr K C f) (r : ClsN K mg nms f) : ClsN K mg (nm :: nms) f := fun x h => by
  rcases List.mem_cons.mp h with rfl | q
  · exact ⟨C, hm, c, n⟩
  · exact r x q
def HdTab (K : PySem.W.Frag) (mg : Str → Option Value) (c : Value) (tbl : List (Str × Bool)) : Prop := ∀ nm b, tbl.lookup nm = some b → ∀ C, mg nm = some (.ref C) → PySem.W.exmOne K (.ref C) c = some b
theorem HdTab.nil {c : Value} : HdTab K mg c [] := fun nm b h => by cases h
theorem HdTab.cons {c : Value} {tbl : List (Str × Bool)} {nm : Str} {b : Bool} (hm : mg nm = some (.ref C)) (h : PySem.W.exmOne K (.ref C) c = some b) (r : HdTab K mg c tbl) : HdTab K mg c ((nm, b) :: tbl) := fun x b' e D hD => by
  rw [List.lookup_cons] at e
  by_cases q : (x == nm) = true
  · have hx : x = nm := eq_of_beq q
    rw [q] at e
    cases e
    subst hx
    rw [hm] at hD
    cases hD
    exact h
  · have q' : (x == nm) = false := by simpa using q
    rw [q'] at e
    exact r x b' e D hD
end
section
variable {P : Program} {w : World} {K : PySem.W.Frag} {mg : Str → Option Value} {base : Heap} {x qual : Str} {st : Stmt} {f : Addr} {fd : FuncData} {N ps : List Str} {k n : Nat} {body : Mo Fl}
theorem defM2 (F : Fun K x qual st f fd) (S : FnScope N ps (defScope st)) (hn : N.length = n)
    (hb : ∀ (cdv : Value) (A : Around) (outer : List Env) (s : Shared) (H : Hp) (E : XK), Room k (A.deeper (envOfC qual (defScope st) s.heap.objs.size f cdv)) → (A.deeper (envOfC qual (defScope st) s.heap.objs.size f cdv)).units + 150 < cLine →
      Takes (cxOf (L2N.CX P w) P w K mg base N qual (defScope st) f cdv A outer s H E) (fun cls d _ H => E cls d H) →
      PassesOwn (model P w) (A.deeper (envOfC qual (defScope st) s.heap.objs.size f cdv)) (envOfC qual (defScope st) s.heap.objs.size f cdv) (cxOf (L2N.CX P w) P w K mg base N qual (defScope st) f cdv A outer s H E).xe →
      Pess (cxOf (L2N.CX P w) P w K mg base N qual (defScope st) f cdv A outer s H E) ea0 (fun cls d _ H => E cls d H) (defBody st) body) : FnM P w K mg base (k + 1) f fd ps (fnM n body) :=
  defM F S hn fun cdv A outer s H E hr => hb cdv A outer s H E hr (by have := hr.un; omega) (takes_of rfl rfl rfl rfl) (passes_of rfl)
theorem defW2 (F : Fun K x qual st f fd) (S : FnScope N ps (defScope st)) (hn : N.length = n)
    (hb : ∀ (cdv : Value) (A : Around) (outer : List Env) (s : Shared) (H : Hp) (E : XK), L2H.RoomH k (A.deeper (envOfC qual (defScope st) s.heap.objs.size f cdv)) → (A.deeper (envOfC qual (defScope st) s.heap.objs.size f cdv)).units + 150 < cLine →
      Takes { cxOf (L2N.CX P w) P w K mg base N qual (defScope st) f cdv A outer s H E with calm := false } (fun cls d _ H => E cls d H) →
      PassesOwn (model P w) (A.deeper (envOfC qual (defScope st) s.heap.objs.size f cdv)) (envOfC qual (defScope st) s.heap.objs.size f cdv) (cxOf (L2N.CX P w) P w K mg base N qual (defScope st) f cdv A outer s H E).xe →
      Pess { cxOf (L2N.CX P w) P w K mg base N qual (defScope st) f cdv A outer s H E with calm := false } ea0 (fun cls d _ H => E cls d H) (defBody st) body) : FnW P w K mg base (k + 1) f fd ps (fnM n body) :=
  defW F S hn fun cdv A outer s H E hr => hb cdv A outer s H E hr (by have := hr.un; omega) (takes_of rfl rfl rfl rfl) (passes_of rfl)
end
section
variable {X : Cx} {ea : EA} {Wx : WX} {e o : Expr} {es : List Expr} {mo : Mo RV} {ms : Mo (List RV)} {m : Fn} {k n : Nat} {f C : Addr} {fd : FuncData} {ps : List Str} {x nm mn : Str} {p pos apos : Pos} {ds : List Value} {dw : List W} {dvs : List V}
theorem pee_callN (hp : ps.length = n) (F : FnM X.prog X.w X.K X.mg X.base k f fd ps m) (hr : Room k X.A) (hm : X.mg x = some (.ref f)) (hk : PySem.W.keepIn X.K (.ref f) = true) (hb : Binds X.K fd ps []) (tk : Takes X Wx) (ha : Pea X ea Wx (e :: es) ms)
    (hg : Gl X x := by rfl) (hdb : (x == ("__debug__" : Str)) = false := by decide) (he : starEach (e :: es) X.env = (false, eval e X.env) :: starEach es X.env := by rfl) (hpl : (backTo pos (starEach es X.env)).any (·.1) = false := by rfl) :
    Pee X ea Wx (.Call (.Name x p) (e :: es) [] pos) (mCall n m ms) := by subst hp; exact pee_call F hr hm hk hb tk ha hg hdb he hpl
theorem pee_callWN (hp : ps.length = n) (F : FnW X.prog X.w X.K X.mg X.base k f fd ps m) (hr : L2H.RoomH k X.A) (hm : X.mg x = some (.ref f)) (hk : PySem.W.keepIn X.K (.ref f) = true) (hb : Binds X.K fd ps []) (ha : Pea X ea Wx (e :: es) ms)
    (hg : Gl X x := by rfl) (hdb : (x == ("__debug__" : Str)) = false := by decide) (he : starEach (e :: es) X.env = (false, eval e X.env) :: starEach es X.env := by rfl) (hpl : (backTo pos (starEach es X.env)).any (·.1) = false := by rfl) :
    Pee X ea Wx (.Call (.Name x p) (e :: es) [] pos) (mCallW n m ms) := by subst hp; exact pee_callW F hr hm hk hb ha hg hdb he hpl
theorem pee_makeN (hp : ps.length = n) (hC : X.mg x = some (.ref C)) (M : Mk X.K C f) (F : FnM X.prog X.w X.K X.mg X.base k f fd ps m) (hr : Room (k + 1) X.A) (hb : Binds X.K fd ps ds) (hd : Vals dvs ds) (hw : Dfl X.K X.mg dw dvs) (tk : Takes X Wx) (ha : Pea X ea Wx (e :: es) ms) (hg : Gl X x := by rfl)
    (hdb : (x == ("__debug__" : Str)) = false := by decide) (he : starEach (e :: es) X.env = (false, eval e X.env) :: starEach es X.env := by rfl) (hpl : (backTo pos (starEach es X.env)).any (·.1) = false := by rfl) :
    Pee X ea Wx (.Call (.Name x p) (e :: es) [] pos) (mMake x n m dw ms) := by subst hp; exact pee_make hC M F hr hb hd hw tk ha hg hdb he hpl
end
end Z
set_option Elab.async false
set_option linter.all false
set_option maxRecDepth 100000
namespace Z
open PySem PySem.Spec PyProof.Rows
open L2 hiding XE Takes CX takes_of passes_call passAt MkP PMk ps_raise mk_of ps_try_as ps_try_many pmk_own Takes.imp
open L2N
def spLaw (K : PySem.W.Frag) : Sp := fun vs H Q _ => ∃ (a : Addr) (ns : List Int), vs = [.ref a] ∧ SqL K H a (ns.map V.int) ∧ ns.length ≤ 63 ∧ (∀ z ∈ ns, Builtin.Int.intBits z ≤ 1048576) ∧ ∀ H', Q (.bl true) H'
def Says (m : Fn) : Prop := ∀ ns : List Int, ns.length ≤ 63 → (∀ z ∈ ns, Builtin.Int.intBits z ≤ 1048576) → ∃ G', m [.frl (ns.map W.int)] [] = some (.ok (.val (.bl true)), G')
theorem law_end {P : Program} {w : World} {K : PySem.W.Frag} {mg : Str → Option Value} {base : Heap} {k : Nat} {f : Addr} {fd : FuncData} {m : Fn} {x : Str} (F : FnM P w K mg base k f fd [x] m) (h : Says m) : FnOk P w K mg base (L2N.CX P w) k f fd [x] (spLaw K) := by
  refine F.ok.imp fun vs H Q E hh => ?_
  obtain ⟨a, ns, rfl, hS, hl, hb, hq⟩ := hh
  obtain ⟨G', e⟩ := h ns hl hb
  refine ⟨rfl, [], fun _ => False, [], _, _, G', ?_, Rws.one ?_, e, fun f hf v H' io' p => ?_, fun x hx => by cases hx⟩
  · exact ⟨rfl, fun n a c h1 => by simp at h1, List.nodup_nil, fun a ha => by simp at ha, fun a z => z.elim⟩
  · refine .frl (vs := ns.map V.int) ?_ (by simp) fun i w v h1 h2 => ?_
    · rcases hS with hS | hS
      · exact .inl ⟨hS, fun z => by rcases z with z | z; · simp at z
                                    · exact z⟩
      · exact .inr hS
    · rw [List.getElem?_map] at h1 h2
      cases e1 : ns[i]? with
      | none => rw [e1] at h1; cases h1
      | some z => rw [e1] at h1 h2; cases h1; cases h2; exact .int z
  · cases hf
    obtain ⟨_, _, r⟩ := p
    cases r
    exact hq H'
end Z
set_option Elab.async false
set_option linter.all false
set_option maxRecDepth 100000
namespace Z
open PySem PySem.Spec PyProof.Rows
open L2 hiding XE Takes CX takes_of passes_call passAt MkP PMk ps_raise mk_of ps_try_as ps_try_many pmk_own Takes.imp
open L2N
section
variable {α β : Type} {r : List SV} {G : List Cell} {m ma mb mc mo mv mi me : Mo RV} {ms : Mo (List RV)} {i n : Nat} {w : W} {s : S}
@[simp] theorem bnd_e {m : Mo α} {f : α → Mo β} : bnd m f ⟨r, G⟩ = match m ⟨r, G⟩ with
  | none => none
  | some (.error x, s') => some (.error x, s')
  | some (.ok a, s') => f a s' := rfl
@[simp] theorem ret_e {a : α} : ret a ⟨r, G⟩ = some (.ok a, ⟨r, G⟩) := rfl
@[simp] theorem stk_e : (stk : Mo α) ⟨r, G⟩ = none := rfl
@[simp] theorem raiseM_e {x : Ex} : (raiseM x : Mo α) ⟨r, G⟩ = some (.error x, ⟨r, G⟩) := rfl
@[simp] theorem mName_e : mName i ⟨r, G⟩ = match r[i]? with
  | some (.val w) => some (.ok (.val w), ⟨r, G⟩)
  | some (.own _) => some (.ok (.hnd i), ⟨r, G⟩)
  | _ => none := rfl
@[simp] theorem mC_e : mC w ⟨r, G⟩ = some (.ok (.val w), ⟨r, G⟩) := rfl
@[simp] theorem settle_val : settle (.val w) = .val w := rfl
@[simp] theorem settle_hnd : settle (.hnd i) = .hnd i := rfl
@[simp] theorem settle_own {c : Cell} : settle (.own c) = .val c.toW := rfl
@[simp] theorem look_int {k : Int} : look (.val (.int k)) ⟨r, G⟩ = some (.ok (.int k), ⟨r, G⟩) := rfl
@[simp] theorem look_bl {k : Bool} : look (.val (.bl k)) ⟨r, G⟩ = some (.ok (.bl k), ⟨r, G⟩) := rfl
@[simp] theorem look_non : look (.val .non) ⟨r, G⟩ = some (.ok .non, ⟨r, G⟩) := rfl
@[simp] theorem look_str {k : Str} : look (.val (.str k)) ⟨r, G⟩ = some (.ok (.str k), ⟨r, G⟩) := rfl
@[simp] theorem look_byt {k : Array UInt8} : look (.val (.byt k)) ⟨r, G⟩ = some (.ok (.byt k), ⟨r, G⟩) := rfl
@[simp] theorem look_tup {k : List W} : look (.val (.tup k)) ⟨r, G⟩ = some (.ok (.tup k), ⟨r, G⟩) := rfl
@[simp] theorem look_lst {k : List W} : look (.val (.lst k)) ⟨r, G⟩ = some (.ok (.lst k), ⟨r, G⟩) := rfl
@[simp] theorem look_frl {k : List W} : look (.val (.frl k)) ⟨r, G⟩ = some (.ok (.frl k), ⟨r, G⟩) := rfl
@[simp] theorem look_dK {k : List (Key × W)} : look (.val (.dK k)) ⟨r, G⟩ = some (.ok (.dK k), ⟨r, G⟩) := rfl
@[simp] theorem look_dT {k : List (List Key × W)} : look (.val (.dT k)) ⟨r, G⟩ = some (.ok (.dT k), ⟨r, G⟩) := rfl
@[simp] theorem look_obj {nm : Str} {k : List (Str × W)} : look (.val (.obj nm k)) ⟨r, G⟩ = some (.ok (.obj nm k), ⟨r, G⟩) := rfl
@[simp] theorem look_ref {k : Nat} : look (.val (.ref k)) ⟨r, G⟩ = (G[k]?).map fun c => (.ok c.toW, ⟨r, G⟩) := by
  show ((G[k]?).map Cell.toW).map _ = _
  rw [Option.map_map]; rfl
@[simp] theorem look_hnd : look (.hnd i) ⟨r, G⟩ = match r[i]? with
    | some (.own c) => some (.ok c.toW, ⟨r, G⟩)
    | some (.val w) => (derefW ⟨r, G⟩ w).map fun z => (.ok z, ⟨r, G⟩)
    | _ => none := rfl
@[simp] theorem deref_int {k : Int} : derefW s (.int k) = some (.int k) := rfl
@[simp] theorem deref_tup {k : List W} : derefW s (.tup k) = some (.tup k) := rfl
@[simp] theorem deref_lst {k : List W} : derefW s (.lst k) = some (.lst k) := rfl
@[simp] theorem deref_frl {k : List W} : derefW s (.frl k) = some (.frl k) := rfl
@[simp] theorem deref_dK {k : List (Key × W)} : derefW s (.dK k) = some (.dK k) := rfl
@[simp] theorem deref_dT {k : List (List Key × W)} : derefW s (.dT k) = some (.dT k) := rfl
@[simp] theorem deref_obj {nm : Str} {k : List (Str × W)} : derefW s (.obj nm k) = some (.obj nm k) := rfl
@[simp] theorem deref_ref {k : Nat} : derefW ⟨r, G⟩ (.ref k) = (G[k]?).map Cell.toW := rfl
@[simp] theorem freeze_val : freeze (.val w) ⟨r, G⟩ = some (.ok w, ⟨r, G⟩) := rfl
@[simp] theorem freeze_hnd : freeze (.hnd i) ⟨r, G⟩ = match r[i]? with
    | some (.own c) => some (.ok c.toW, ⟨r.set i (.val c.toW), G⟩)
    | some (.val w) => some (.ok w, ⟨r, G⟩)
    | _ => none := rfl
@[simp] theorem liftO_e {z : OR} : liftO (some z) ⟨r, G⟩ = some (.ok z.toRV, ⟨r, G⟩) := rfl
@[simp] theorem liftO_n : liftO none ⟨r, G⟩ = none := rfl
@[simp] theorem liftB_e {z : Bool} : liftB (some z) ⟨r, G⟩ = some (.ok z, ⟨r, G⟩) := rfl
@[simp] theorem opM_e {f : W → W → Option OR} {x y : RV} : opM f x y ⟨r, G⟩ = bnd (look x) (fun wx => bnd (look y) fun wy => liftO (f wx wy)) ⟨r, G⟩ := rfl
@[simp] theorem mBin_e {f : W → W → Option OR} : mBin f ma mb ⟨r, G⟩ = bnd ma (fun x => bnd mb fun y => opM f (settle x) (settle y)) ⟨r, G⟩ := rfl
@[simp] theorem mUn_e {f : W → Option OR} : mUn f ma ⟨r, G⟩ = bnd ma (fun x => bnd (look (settle x)) fun wx => liftO (f wx)) ⟨r, G⟩ := rfl
@[simp] theorem toB_e {b : Bool} : toB (.val (.bl b)) ⟨r, G⟩ = some (.ok b, ⟨r, G⟩) := rfl
@[simp] theorem mB_e : mB m ⟨r, G⟩ = bnd m toB ⟨r, G⟩ := rfl
@[simp] theorem mTru_e : mTru m ⟨r, G⟩ = bnd m (fun x => bnd (look (settle x)) fun w => liftB (truW w)) ⟨r, G⟩ := rfl
@[simp] theorem mAnd_e {a b : Mo Bool} : mAnd a b ⟨r, G⟩ = bnd a (fun x => if x = true then b else ret false) ⟨r, G⟩ := rfl
@[simp] theorem mOr_e {a b : Mo Bool} : mOr a b ⟨r, G⟩ = bnd a (fun x => if x = true then ret true else b) ⟨r, G⟩ := rfl
@[simp] theorem mNot_e {a : Mo Bool} : mNot a ⟨r, G⟩ = bnd a (fun x => ret (!x)) ⟨r, G⟩ := rfl
@[simp] theorem mIf_e {c : Mo Bool} {a b : Mo Fl} : mIf c a b ⟨r, G⟩ = bnd c (fun x => if x = true then a else b) ⟨r, G⟩ := rfl
@[simp] theorem mAndV_e : mAndV ma mb ⟨r, G⟩ = bnd (mB ma) (fun x => if x = true then mb else ret (.val (.bl false))) ⟨r, G⟩ := rfl
@[simp] theorem mOrV_e : mOrV ma mb ⟨r, G⟩ = bnd (mB ma) (fun x => if x = true then ret (.val (.bl true)) else mb) ⟨r, G⟩ := rfl
@[simp] theorem mNotV_e : mNotV ma ⟨r, G⟩ = bnd (mB ma) (fun x => ret (.val (.bl (!x)))) ⟨r, G⟩ := rfl
@[simp] theorem mSeq_e {a b : Mo Fl} : mSeq a b ⟨r, G⟩ = match a ⟨r, G⟩ with
  | none => none
  | some (.error x, s') => some (.error x, s')
  | some (.ok .nx, s') => b s'
  | some (.ok .bk, s') => some (.ok .bk, s')
  | some (.ok .ct, s') => some (.ok .ct, s')
  | some (.ok (.rt f), s') => some (.ok (.rt f), s') := by
  unfold mSeq bnd
  cases a ⟨r, G⟩ with
  | none => rfl
  | some p =>
    obtain ⟨q, s'⟩ := p
    cases q with
    | error x => rfl
    | ok f => cases f <;> rfl
@[simp] theorem mNext_e : mNext ⟨r, G⟩ = some (.ok .nx, ⟨r, G⟩) := rfl
@[simp] theorem land_val : land (.val w) ⟨r, G⟩ = some (.ok (.val w), ⟨r, G⟩) := rfl
@[simp] theorem land_own {c : Cell} : land (.own c) ⟨r, G⟩ = some (.ok (.own c), ⟨r, G⟩) := rfl
@[simp] theorem land_hnd : land (.hnd i) ⟨r, G⟩ = bnd (freeze (.hnd i)) (fun w => ret (.val w)) ⟨r, G⟩ := rfl
@[simp] theorem setM_e {x : SV} : setM i x ⟨r, G⟩ = some (.ok .nx, ⟨r.set i x, G⟩) := rfl
@[simp] theorem mAsg_e : mAsg i m ⟨r, G⟩ = bnd m (fun x => bnd (land x) fun y => setM i y) ⟨r, G⟩ := rfl
@[simp] theorem mDrop_e : mDrop m ⟨r, G⟩ = bnd m (fun _ => ret .nx) ⟨r, G⟩ := rfl
@[simp] theorem retM_val : retM (.val w) ⟨r, G⟩ = some (.ok (.rt (.val w)), ⟨r, G⟩) := rfl
@[simp] theorem retM_own {c : Cell} : retM (.own c) ⟨r, G⟩ = some (.ok (.rt (.own c)), ⟨r, G⟩) := rfl
@[simp] theorem retM_hnd : retM (.hnd i) ⟨r, G⟩ = match r[i]? with
    | some (.own c) => some (.ok (.rt (.own c)), ⟨r, G⟩)
    | some (.val w) => some (.ok (.rt (.val w)), ⟨r, G⟩)
    | _ => none := rfl
@[simp] theorem mRet_e : mRet m ⟨r, G⟩ = bnd m retM ⟨r, G⟩ := rfl
@[simp] theorem mNil_e : mNil ⟨r, G⟩ = some (.ok [], ⟨r, G⟩) := rfl
@[simp] theorem mCons_e : mCons m ms ⟨r, G⟩ = bnd m (fun x => bnd ms fun xs => ret (settle x :: xs)) ⟨r, G⟩ := rfl
@[simp] theorem freezeAll_nil : freezeAll [] ⟨r, G⟩ = some (.ok [], ⟨r, G⟩) := rfl
@[simp] theorem freezeAll_cons {x : RV} {xs : List RV} : freezeAll (x :: xs) ⟨r, G⟩ = bnd (freeze x) (fun w => bnd (freezeAll xs) fun ws => ret (w :: ws)) ⟨r, G⟩ := rfl
@[simp] theorem lookAll_nil : lookAll [] ⟨r, G⟩ = some (.ok [], ⟨r, G⟩) := rfl
@[simp] theorem lookAll_cons {x : RV} {xs : List RV} : lookAll (x :: xs) ⟨r, G⟩ = bnd (look x) (fun w => bnd (lookAll xs) fun ws => ret (w :: ws)) ⟨r, G⟩ := rfl
@[simp] theorem mTup_e : mTup ms ⟨r, G⟩ = bnd ms (fun xs => bnd (freezeAll xs) fun ws => if ws.length ≤ sz then ret (.val (.tup ws)) else stk) ⟨r, G⟩ := rfl
@[simp] theorem mLst_e : mLst ms ⟨r, G⟩ = bnd ms (fun xs => bnd (freezeAll xs) fun ws => if ws.length ≤ sz then ret (.own (.lst ws)) else stk) ⟨r, G⟩ := rfl
@[simp] theorem mCB_e {f : List W → Option OR} : mCB f ms ⟨r, G⟩ = bnd ms (fun xs => bnd (lookAll xs) fun ws => liftO (f ws)) ⟨r, G⟩ := rfl
@[simp] theorem mAsgT_e {t : W → Mo Unit} : mAsgT t m ⟨r, G⟩ = bnd m (fun x => bnd (freeze (settle x)) fun w => bnd (t w) fun _ => ret .nx) ⟨r, G⟩ := rfl
@[simp] theorem tgN_e : tgN i w ⟨r, G⟩ = some (.ok (), ⟨r.set i (.val w), G⟩) := rfl
@[simp] theorem tgT_e {u : List W → Mo Unit} {ws : List W} : tgT n u (.tup ws) ⟨r, G⟩ = if ws.length = n then u ws ⟨r, G⟩ else none := by
  show (if ws.length = n then u ws else stk) ⟨r, G⟩ = _
  split <;> rfl
@[simp] theorem tgsNil_e : tgsNil [] ⟨r, G⟩ = some (.ok (), ⟨r, G⟩) := rfl
@[simp] theorem tgsCons_e {t : W → Mo Unit} {u : List W → Mo Unit} {ws : List W} : tgsCons t u (w :: ws) ⟨r, G⟩ = bnd (t w) (fun _ => u ws) ⟨r, G⟩ := rfl
@[simp] theorem mFor_e {mi : Mo Wk} {t : W → Mo Unit} {mb : Mo Fl} : mFor mi t mb ⟨r, G⟩ = bnd mi (fun k => forL k k.ws fun w => bnd (t w) fun _ => mb) ⟨r, G⟩ := rfl
@[simp] theorem mIter_e : mIter m ⟨r, G⟩ = bnd m (fun x => bnd (freeze (settle x)) fun w s => (walkOf s w).map fun k => (.ok k, s)) ⟨r, G⟩ := rfl
@[simp] theorem walk_lst {ws : List W} : walkOf s (.lst ws) = some ⟨ws, none⟩ := rfl
@[simp] theorem walk_frl {ws : List W} : walkOf s (.frl ws) = some ⟨ws, none⟩ := rfl
@[simp] theorem walk_tup {ws : List W} : walkOf s (.tup ws) = some ⟨ws, none⟩ := rfl
@[simp] theorem walk_ref : walkOf ⟨r, G⟩ (.ref n) = match G[n]? with
    | some (.lst ws) => some ⟨ws, some n⟩
    | _ => none := rfl
theorem lk_nat {n : Nat} (h : n ≤ 1000000) : Lk (n : Int) := by unfold Lk; omega
@[simp] theorem rk_small {j : Int} (h : -1000000 ≤ j ∧ j ≤ 1000000) : Rk j := by unfold Rk; omega
theorem rk_nat {n : Nat} (h : n ≤ 1000000) : Rk (n : Int) := by unfold Rk; omega
@[simp] theorem mRng1_e : mRng1 ms ⟨r, G⟩ = bnd ms (fun xs => bnd (lookAll xs) fun ws => match ws with
  | [.int j] => if Rk j then ret ⟨rngW 0 j.toNat, none⟩ else stk
  | _ => stk) ⟨r, G⟩ := rfl
@[simp] theorem mRng2_e : mRng2 ms ⟨r, G⟩ = bnd ms (fun xs => bnd (lookAll xs) fun ws => match ws with
  | [.int i, .int j] => if Rk i ∧ Rk j then ret ⟨rngW i (j - i).toNat, none⟩ else stk
  | _ => stk) ⟨r, G⟩ := rfl
@[simp] theorem mLc_e {vs : List Nat} {mi : Mo Wk} {t : W → Mo Unit} {tt : Mo Bool} : mLc vs mi t tt me ⟨r, G⟩ = bnd mi (fun k s => lcL vs t tt me k k.ws [] (wipeS vs s)) ⟨r, G⟩ := rfl
@[simp] theorem mYes_e : mYes ⟨r, G⟩ = some (.ok true, ⟨r, G⟩) := rfl
@[simp] theorem wipeS_e {vs : List Nat} : wipeS vs ⟨r, G⟩ = ⟨wipeR r vs, G⟩ := rfl
@[simp] theorem wipeR_nil : wipeR r [] = r := rfl
@[simp] theorem wipeR_cons {vs : List Nat} : wipeR r (n :: vs) = (wipeR r vs).set n .non := rfl
@[simp] theorem mChain_e {f g : W → W → Option OR} : mChain f g ma mb mc ⟨r, G⟩ = bnd ma (fun x => bnd mb fun y => bnd (mB (opM f (settle x) (settle y))) fun k => if k = true then bnd mc fun z => opM g (settle y) (settle z) else ret (.val (.bl false))) ⟨r, G⟩ := rfl
@[simp] theorem mSl_e {ml mh : Mo (Option Int)} : mSl mo ml mh ⟨r, G⟩ = bnd mo (fun x => bnd ml fun l => bnd mh fun h => bnd (look (settle x)) fun wx => liftO (fSl wx l h)) ⟨r, G⟩ := rfl
@[simp] theorem toI_e {k : Int} : toI (.val (.int k)) ⟨r, G⟩ = some (.ok (some k), ⟨r, G⟩) := rfl
@[simp] theorem mPart_e : mPart m ⟨r, G⟩ = bnd m toI ⟨r, G⟩ := rfl
@[simp] theorem mMut_e {k : CK} {f : Cell → List W → Option (W × Cell)} : mMut k f mo ms ⟨r, G⟩ = bnd mo (fun x s => if ((cellAt s (settle x)).map k.fits) = some true then (bnd ms fun xs => bnd (freezeAll xs) fun ws s2 => match cellAt s2 (settle x) with
  | some c => (match f c ws with
    | some (w, c') => some (.ok (.val w), putAt s2 c' (settle x))
    | none => none)
  | none => none) s else none) ⟨r, G⟩ := rfl
@[simp] theorem cellAt_hnd : cellAt ⟨r, G⟩ (.hnd i) = match r[i]? with
    | some (.own c) => some c
    | some (.val (.ref n)) => G[n]?
    | _ => none := rfl
@[simp] theorem cellAt_ref : cellAt ⟨r, G⟩ (.val (.ref n)) = G[n]? := rfl
@[simp] theorem putAt_hnd {c : Cell} : putAt ⟨r, G⟩ c (.hnd i) = match r[i]? with
    | some (.own _) => ⟨r.set i (.own c), G⟩
    | some (.val (.ref n)) => ⟨r, G.set n c⟩
    | _ => ⟨r, G⟩ := by
  unfold putAt
  rfl
@[simp] theorem putAt_ref {c : Cell} : putAt ⟨r, G⟩ c (.val (.ref n)) = ⟨r, G.set n c⟩ := rfl
@[simp] theorem fits_l {ws : List W} : CK.fits .lst (.lst ws) = true := rfl
@[simp] theorem mCall_e {m : Fn} : mCall n m ms ⟨r, G⟩ = bnd ms (fun xs => bnd (freezeAll xs) fun ws => if ws.length = n then callG m ws else stk) ⟨r, G⟩ := rfl
@[simp] theorem callG_e {m : Fn} {ws : List W} : callG m ws ⟨r, G⟩ = match m ws G with
  | some (.ok f, G') => some (.ok (rvOf f), ⟨r, G'⟩)
  | some (.error x, G') => some (.error x, ⟨r, G'⟩)
  | none => none := rfl
@[simp] theorem rvOf_val : rvOf (.val w) = .val w := rfl
@[simp] theorem rvOf_own {c : Cell} : rvOf (.own c) = .own c := rfl
@[simp] theorem mCallW_e {m : Fn} : mCallW n m ms ⟨r, G⟩ = bnd ms (fun xs => bnd (freezeAll xs) fun ws => if ws.length = n then quiet (callG m ws) else stk) ⟨r, G⟩ := rfl
@[simp] theorem quiet_e : quiet m ⟨r, G⟩ = match m ⟨r, G⟩ with
  | some (.ok x, s') => some (.ok x, s')
  | _ => none := rfl
@[simp] theorem chk_e {nm mn : Str} : chk nm mn w ⟨r, G⟩ = match derefW ⟨r, G⟩ w with
  | some (.obj nm' fs) => if nm' = nm ∧ fs.lookup mn = none then some (.ok (), ⟨r, G⟩) else none
  | _ => none := rfl
@[simp] theorem mMake_e {nm : Str} {m : Fn} {ds : List W} : mMake nm n m ds ms ⟨r, G⟩ = bnd ms (fun xs => bnd (freezeAll xs) fun ws => if (ws ++ ds).length + 1 = n then makeG nm m (ws ++ ds) else stk) ⟨r, G⟩ := rfl
@[simp] theorem mSetF_e {nms : List Str} {f : Str} : mSetF nms f mo mv ⟨r, G⟩ = bnd mv (fun y => bnd (freeze (settle y)) fun wy => bnd mo fun x => putFld nms f wy x) ⟨r, G⟩ := rfl
@[simp] theorem putFld_e {nms : List Str} {f : Str} : putFld nms f w (.val (.ref n)) ⟨r, G⟩ = match G[n]? with
    | some (.ins nm fs) => if nm ∈ nms ∧ fs.length < 1000 then some (.ok .nx, ⟨r, G.set n (.ins nm (putFW f w fs))⟩) else none
    | _ => none := rfl
@[simp] theorem mRaise_e {nm : Str} {fs : List Str} : mRaise nm fs ms ⟨r, G⟩ = bnd ms (fun xs => bnd (freezeAll xs) fun ws => if ws.length = fs.length ∧ ws.length ≤ 1000 then raiseM ⟨nm, (fs.zip ws).reverse⟩ else stk) ⟨r, G⟩ := rfl
@[simp] theorem mIs_e {tab : List (CT × Bool)} : mIs tab m ⟨r, G⟩ = bnd m (fun x => bnd (look (settle x)) fun w => liftO ((tyOfW w).bind fun c => (tabAt tab c).map fun b => .imm (.bl b))) ⟨r, G⟩ := rfl
@[simp] theorem mXf_e {nms : List Str} {f : Str} : mXf nms i f ⟨r, G⟩ = match r[i]? with
  | some (.exc x) => if x.nm ∈ nms then (match x.fs.lookup f with
    | some w => some (.ok (.val w), ⟨r, G⟩)
    | none => none) else none
  | _ => none := rfl
@[simp] theorem mIsX_e {tab : List (CT × Bool)} : mIsX tab i ⟨r, G⟩ = match r[i]? with
  | some (.exc x) => (match tabAt tab (.own x.nm) with
    | some b => some (.ok (.val (.bl b)), ⟨r, G⟩)
    | none => none)
  | _ => none := rfl
@[simp] theorem mBinS_e {f : RV → RV → Mo RV} : mBinS f ma mb ⟨r, G⟩ = bnd ma (fun x => bnd mb fun y => f (settle x) (settle y)) ⟨r, G⟩ := rfl
@[simp] theorem mIn2_e {neg : Bool} {nm : Str} {m : Fn} {x y : RV} : mIn2 neg nm m x y ⟨r, G⟩ = bnd (freezeAll [y, x]) (fun ws => bnd (chk1 nm ws) fun _ => bnd (callG m ws) (toBl neg)) ⟨r, G⟩ := rfl
@[simp] theorem chkO_e {nm : Str} {tys : List CT} {x y : W} : chkO nm tys [x, y] ⟨r, G⟩ = match derefW ⟨r, G⟩ x, (derefW ⟨r, G⟩ y).bind tyOfW with
    | some (.obj nm' _), some ct => if nm' = nm ∧ ct ∈ tys then some (.ok (), ⟨r, G⟩) else none
    | _, _ => none := rfl
@[simp] theorem chk1_e {nm : Str} {x : W} {xs : List W} : chk1 nm (x :: xs) ⟨r, G⟩ = match derefW ⟨r, G⟩ x with
    | some (.obj nm' _) => if nm' = nm then some (.ok (), ⟨r, G⟩) else none
    | _ => none := rfl
@[simp] theorem toBl_e {neg b : Bool} : toBl neg (.val (.bl b)) ⟨r, G⟩ = some (.ok (.val (.bl (if neg then !b else b))), ⟨r, G⟩) := rfl
@[simp] theorem mLenO_e {nm : Str} {m : Fn} : mLenO nm m ms ⟨r, G⟩ = bnd ms (fun xs => bnd (freezeAll xs) fun ws => if ws.length = 1 then bnd (chk1 nm ws) fun _ => bnd (callG m ws) toLen else stk) ⟨r, G⟩ := rfl
@[simp] theorem toLen_e {k : Int} : toLen (.val (.int k)) ⟨r, G⟩ = if Lk k then some (.ok (.val (.int k)), ⟨r, G⟩) else none := by
  show (if Lk k then ret (.val (.int k)) else stk : Mo RV) ⟨r, G⟩ = _
  split <;> rfl
@[simp] theorem mListS_e {nm fl : Str} {rd : W → Option (List W)} {m : Fn} : mListS nm fl rd m ms ⟨r, G⟩ = bnd ms (fun xs => bnd (freezeAll xs) fun ws => listO nm fl rd m ws) ⟨r, G⟩ := rfl
@[simp] theorem listO_e {nm fl : Str} {rd : W → Option (List W)} {m : Fn} : listO nm fl rd m [w] ⟨r, G⟩ = match (derefW ⟨r, G⟩ w).bind (fldS nm fl rd) with
    | some zs => (match callG m [w] ⟨r, G⟩ with
      | some (.ok (.val (.int n)), s') => if 0 ≤ n ∧ n ≤ sz then some (.ok (.own (.lst zs)), s') else none
      | _ => none)
    | none => none := rfl
@[simp] theorem mCell_e : mCell m ⟨r, G⟩ = bnd m toCell ⟨r, G⟩ := rfl
@[simp] theorem toCell_e {c : Cell} : toCell (.own c) ⟨r, G⟩ = some (.ok (.val (.ref G.length)), ⟨r, G ++ [c]⟩) := rfl
@[simp] theorem mTry_e {m : Mo Fl} {hs : List Hd} : mTry m hs ⟨r, G⟩ = match m ⟨r, G⟩ with
  | none => none
  | some (.ok f, s') => some (.ok f, s')
  | some (.error x, s') => handleM hs x s' := rfl
@[simp] theorem handle_nil {x : Ex} : handleM [] x ⟨r, G⟩ = some (.error x, ⟨r, G⟩) := rfl
@[simp] theorem handle_cons {x : Ex} {h : Hd} {hs : List Hd} : handleM (h :: hs) x ⟨r, G⟩ = match h.tbl.lookup x.nm with
    | none => none
    | some true => runSuite h x ⟨r, G⟩
    | some false => handleM hs x ⟨r, G⟩ := rfl
@[simp] theorem runSuite_e {x : Ex} {h : Hd} : runSuite h x ⟨r, G⟩ = if noExc r = true then match h.slot with
  | none => (match h.suite ⟨r, G⟩ with
    | some (.ok f, s') => if noExc s'.r = true then some (.ok f, s') else none
    | _ => none)
  | some i => (match h.suite ⟨r.set i (.exc x), G⟩ with
    | some (.ok f, s') => if noExc (s'.r.set i .non) = true then some (.ok f, { s' with r := s'.r.set i .non }) else none
    | _ => none)
  else none := rfl
end
section
variable {a b : Int}
@[simp] theorem fAdd_i : fAdd (.int a) (.int b) = some (.imm (.int (a + b))) := rfl
@[simp] theorem fSub_i : fSub (.int a) (.int b) = some (.imm (.int (a - b))) := rfl
@[simp] theorem fMul_i : fMul (.int a) (.int b) = if CMul a b then some (.imm (.int (a * b))) else none := by
  unfold fMul orf fIC fRepL
  split <;> rename_i h <;> split at h <;> simp_all
@[simp] theorem fDiv_i : fDiv (.int a) (.int b) = if CDivW a b then some (.imm (.int (a / b))) else none := rfl
@[simp] theorem fMod_i : fMod (.int a) (.int b) = if 0 < b then some (.imm (.int (a % b))) else none := rfl
@[simp] theorem fPow_i : fPow (.int a) (.int b) = if CPow a b then some (.imm (.int (a ^ b.toNat))) else none := rfl
@[simp] theorem fNeg_i : fNeg (.int a) = some (.imm (.int (-a))) := rfl
@[simp] theorem fLt_i : fLt (.int a) (.int b) = some (.imm (.bl (decide (a < b)))) := rfl
@[simp] theorem fLe_i : fLe (.int a) (.int b) = some (.imm (.bl (decide (a ≤ b)))) := rfl
@[simp] theorem fInt1_i : fInt1 [.int a] = some (.imm (.int a)) := rfl
@[simp] theorem fLen_l {ws : List W} : fLen [.lst ws] = some (.imm (.int ws.length)) := rfl
@[simp] theorem fLen_f {ws : List W} : fLen [.frl ws] = some (.imm (.int ws.length)) := rfl
@[simp] theorem fLen_t {ws : List W} : fLen [.tup ws] = some (.imm (.int ws.length)) := rfl
@[simp] theorem fIx_l {ws : List W} : fIx (.lst ws) (.int a) = (atI ws a).map .imm := by
  unfold fIx orf fIxS
  cases h : atI ws a <;> simp [h, fIxD, dLook]
@[simp] theorem fIx_f {ws : List W} : fIx (.frl ws) (.int a) = (atI ws a).map .imm := by
  unfold fIx orf fIxS
  cases h : atI ws a <;> simp [h, fIxD, dLook]
@[simp] theorem fIx_t {ws : List W} : fIx (.tup ws) (.int a) = (atI ws a).map .imm := by
  unfold fIx orf fIxS
  cases h : atI ws a <;> simp [h, fIxD, dLook]
theorem atI_mapI {xs : List Int} {k : Nat} (h : k < xs.length) : atI (xs.map W.int) (k : Int) = some (.int (xs[k]'h)) := atI_nat (by simp [h])
end
theorem fnM_e {n : Nat} {body : Mo Fl} {ws : List W} {G : List Cell} : fnM n body ws G = match body ⟨ws.map SV.val ++ List.replicate (n - ws.length) SV.non, G⟩ with
  | some (.ok (.rt f), s) => some (.ok f, s.G)
  | some (.ok .nx, s) => some (.ok (.val .non), s.G)
  | some (.error x, s) => some (.error x, s.G)
  | _ => none := rfl
end Z
set_option Elab.async false
set_option linter.all false
set_option maxRecDepth 100000
namespace Z
open PySem PySem.Spec PyProof.Rows
open L2 hiding XE Takes CX takes_of passes_call passAt MkP PMk ps_raise mk_of ps_try_as ps_try_many pmk_own Takes.imp
open L2N
section
variable {ws ws0 : List W} {k : Wk} {b : W → Mo Fl} {s : S} {F : Option (Except Ex Fl × S)}
@[simp] theorem ok_none : Wk.ok ⟨ws, none⟩ s ↔ True := Iff.rfl
@[simp] theorem ok_some {n : Nat} {r : List SV} {G : List Cell} : Wk.ok ⟨ws, some n⟩ ⟨r, G⟩ ↔ G[n]? = some (.lst ws) := Iff.rfl
theorem forL_gen {R : Except Ex Fl → S → Prop} (I : Nat → S → Prop) (hok : ∀ i s, I i s → k.ok s) (hend : ∀ s, I ws.length s → R (.ok .nx) s)
    (h : ∀ (i : Nat) (hi : i < ws.length) (s : S), I i s → (∃ s', (b ws[i] s = some (.ok .nx, s') ∨ b ws[i] s = some (.ok .ct, s')) ∧ I (i + 1) s') ∨ (∃ s', b ws[i] s = some (.ok .bk, s') ∧ R (.ok .nx) s') ∨
      (∃ f s', b ws[i] s = some (.ok (.rt f), s') ∧ R (.ok (.rt f)) s') ∨ ∃ x s', b ws[i] s = some (.error x, s') ∧ R (.error x) s') :
    ∀ (n i : Nat) (s : S), n = ws.length - i → i ≤ ws.length → I i s → ∃ r s', forL k (ws.drop i) b s = some (r, s') ∧ R r s' := by
  intro n
  induction n with
  | zero =>
    intro i s hk hi hI
    have e : i = ws.length := by omega
    subst e
    rw [List.drop_length]
    exact ⟨_, _, if_pos (hok _ _ hI), hend s hI⟩
  | succ n ih =>
    intro i s hk hi hI
    have hlt : i < ws.length := by omega
    rw [drop_get hlt]
    unfold forL
    rw [if_pos (hok _ _ hI)]
    rcases h i hlt s hI with ⟨s', e | e, hI'⟩ | ⟨s', e, hR⟩ | ⟨f, s', e, hR⟩ | ⟨x, s', e, hR⟩
    · rw [bnd_at e]
      exact ih (i + 1) s' (by omega) (by omega) hI'
    · rw [bnd_at e]
      exact ih (i + 1) s' (by omega) (by omega) hI'
    · rw [bnd_at e]
      exact ⟨_, _, rfl, hR⟩
    · rw [bnd_at e]
      exact ⟨_, _, rfl, hR⟩
    · unfold bnd; rw [e]
      exact ⟨_, _, rfl, hR⟩
theorem forL_exitK {R : Except Ex Fl → S → Prop} (hF : forL k ws b s = F) (I : Nat → S → Prop) (hok : ∀ i s, I i s → k.ok s) (h0 : I 0 s) (hend : ∀ s, I ws.length s → R (.ok .nx) s)
    (h : ∀ (i : Nat) (hi : i < ws.length) (s : S), I i s → (∃ s', (b ws[i] s = some (.ok .nx, s') ∨ b ws[i] s = some (.ok .ct, s')) ∧ I (i + 1) s') ∨ (∃ s', b ws[i] s = some (.ok .bk, s') ∧ R (.ok .nx) s') ∨
      (∃ f s', b ws[i] s = some (.ok (.rt f), s') ∧ R (.ok (.rt f)) s') ∨ ∃ x s', b ws[i] s = some (.error x, s') ∧ R (.error x) s') : ∃ r s', F = some (r, s') ∧ R r s' := by
  have := forL_gen (k := k) I hok hend h ws.length 0 s (by simp) (Nat.zero_le _) h0
  rw [List.drop_zero, hF] at this
  exact this
theorem forL_atK (hF : forL k ws b s = F) (I : Nat → S → Prop) (hok : ∀ i s, I i s → k.ok s) (h0 : I 0 s) (h : ∀ (i : Nat) (hi : i < ws.length) (s : S), I i s → ∃ s', b ws[i] s = some (.ok .nx, s') ∧ I (i + 1) s') : ∃ s', F = some (.ok .nx, s') ∧ I ws.length s' := by
  obtain ⟨r, s', e, hr, hI⟩ := forL_exitK hF (R := fun r s' => r = .ok .nx ∧ I ws.length s') I hok h0 (fun s hI => ⟨rfl, hI⟩) (fun i hi s hI => .inl (let ⟨s', e, h'⟩ := h i hi s hI; ⟨s', .inl e, h'⟩))
  subst hr
  exact ⟨s', e, hI⟩
theorem forL_at (hF : forL ⟨ws0, none⟩ ws b s = F) (I : Nat → S → Prop) (h0 : I 0 s) (h : ∀ (i : Nat) (hi : i < ws.length) (s : S), I i s → ∃ s', b ws[i] s = some (.ok .nx, s') ∧ I (i + 1) s') : ∃ s', F = some (.ok .nx, s') ∧ I ws.length s' := forL_atK hF I (fun _ _ _ => trivial) h0 h
variable {γ : Type} {e : γ → W} {xs : List γ} {vs : List Nat} {t : W → Mo Unit} {tt : Mo Bool} {me : Mo RV}
theorem lc_pure (hk : k.ok s) (p : γ → Bool) (f : γ → W) : ∀ (xs : List γ) (acc : List W), (∀ x ∈ xs, ∃ s1, (bnd (t (e x)) fun _ => tt) s = some (.ok (p x), s1) ∧ (p x = true → ∃ s2, (bnd me fun y => freeze (settle y)) s1 = some (.ok (f x), s2) ∧ wipeS vs s2 = s) ∧ (p x = false → wipeS vs s1 = s)) →
    acc.length + xs.length ≤ sz → lcL vs t tt me k (xs.map e) acc s = some (.ok (.own (.lst (acc ++ (xs.filter p).map f))), s)
  | [], acc, _, _ => by
    simp only [List.map_nil, List.filter_nil, List.append_nil]
    unfold lcL
    exact if_pos hk
  | x :: xs, acc, h, hl => by
    obtain ⟨s1, e1, h1, h2⟩ := h x List.mem_cons_self
    have hr := fun y hy => h y (List.mem_cons_of_mem x hy)
    simp only [List.map_cons]
    unfold lcL
    rw [if_pos hk, e1]
    cases q : p x with
    | true =>
      obtain ⟨s2, e2, e3⟩ := h1 q
      simp only [e2]
      rw [if_pos (by simp at hl; omega), e3, lc_pure hk p f xs _ hr (by simp at hl ⊢; omega)]
      simp [List.filter_cons, q]
    | false =>
      simp only []
      rw [h2 q, lc_pure hk p f xs _ hr (by simp at hl ⊢; omega)]
      simp [List.filter_cons, q]
theorem lc_all (hk : k.ok s) (f : γ → W) (xs : List γ) (acc : List W) (h : ∀ x ∈ xs, ∃ s1, (bnd (t (e x)) fun _ => tt) s = some (.ok true, s1) ∧ ∃ s2, (bnd me fun y => freeze (settle y)) s1 = some (.ok (f x), s2) ∧ wipeS vs s2 = s) (hl : acc.length + xs.length ≤ sz) :
    lcL vs t tt me k (xs.map e) acc s = some (.ok (.own (.lst (acc ++ xs.map f))), s) := by
  have := lc_pure hk (vs := vs) (t := t) (tt := tt) (me := me) (e := e) (s := s) (fun _ => true) f xs acc (fun x hx => by
    obtain ⟨s1, e1, s2, e2, e3⟩ := h x hx
    exact ⟨s1, e1, fun _ => ⟨s2, e2, e3⟩, fun q => by cases q⟩) hl
  rwa [List.filter_eq_self.mpr fun _ _ => rfl] at this
end
theorem toPDs_map {γ : Type} {e : γ → W} {g : γ → PyData} (h : ∀ x, toPD (e x) = some (g x)) : ∀ xs : List γ, toPDs (xs.map e) = some (xs.map g)
  | [] => rfl
  | x :: xs => by simp only [List.map_cons, toPDs, h x, toPDs_map h xs]
theorem eqvAll_map {γ : Type} [DecidableEq γ] {g : γ → PyData} (h : ∀ x y, PyData.eqv (g x) (g y) = decide (x = y)) : ∀ xs ys : List γ, PyData.eqvAll (xs.map g) (ys.map g) = decide (xs = ys)
  | [], [] => rfl
  | [], _ :: _ => rfl
  | _ :: _, [] => rfl
  | x :: xs, y :: ys => by
    simp only [List.map_cons, PyData.eqvAll, h, eqvAll_map h xs ys]
    by_cases h1 : x = y <;> by_cases h2 : xs = ys <;> simp [h1, h2]
theorem canAll_map {γ : Type} {g : γ → PyData} (h : ∀ x, (g x).canLay0 = true) : ∀ xs : List γ, PyData.canLayAll0 (xs.map g) = true
  | [] => rfl
  | x :: xs => by simp only [List.map_cons, PyData.canLayAll0, h x, canAll_map h xs, Bool.and_true]
structure Emb {γ : Type} [DecidableEq γ] (e : γ → W) (n : Nat) : Prop where
  ex : ∃ g : γ → PyData, (∀ x, toPD (e x) = some (g x)) ∧ (∀ x, (g x).canLay0 = true) ∧ (∀ x, (g x).depth ≤ n) ∧ ∀ x y, PyData.eqv (g x) (g y) = decide (x = y)
theorem depthAll_map {γ : Type} {g : γ → PyData} {n : Nat} (h : ∀ x, (g x).depth ≤ n) : ∀ xs : List γ, PyData.depthAll (xs.map g) ≤ n
  | [] => Nat.zero_le _
  | x :: xs => by simp only [List.map_cons, PyData.depthAll]; exact Nat.max_le.mpr ⟨h x, depthAll_map h xs⟩
section
variable {γ δ : Type} [DecidableEq γ] [DecidableEq δ] {e : γ → W} {e' : δ → W} {n m : Nat}
theorem emb_int : Emb W.int 0 := ⟨PyData.int, fun _ => rfl, fun _ => rfl, fun _ => Nat.le_refl _, fun x y => by
  show (x == y) = _
  by_cases h : x = y <;> simp [h]⟩
theorem emb_lst (h : Emb e n) : Emb (fun xs : List γ => W.lst (xs.map e)) (n + 1) := by
  obtain ⟨g, h1, h2, h3, h4⟩ := h.ex
  refine ⟨fun xs => .list (xs.map g), fun xs => ?_, fun xs => ?_, fun xs => ?_, fun xs ys => ?_⟩
  · simp only [toPD, toPDs_map h1, Option.map_some]
  · simp only [PyData.canLay0]; exact canAll_map h2 xs
  · simp only [PyData.depth]; exact Nat.succ_le_succ (depthAll_map h3 xs)
  · simp only [PyData.eqv]; exact eqvAll_map h4 xs ys
theorem emb_tup (h : Emb e n) : Emb (fun xs : List γ => W.tup (xs.map e)) (n + 1) := by
  obtain ⟨g, h1, h2, h3, h4⟩ := h.ex
  refine ⟨fun xs => .tuple (xs.map g), fun xs => ?_, fun xs => ?_, fun xs => ?_, fun xs ys => ?_⟩
  · simp only [toPD, toPDs_map h1, Option.map_some]
  · simp only [PyData.canLay0]; exact canAll_map h2 xs
  · simp only [PyData.depth]; exact Nat.succ_le_succ (depthAll_map h3 xs)
  · simp only [PyData.eqv]; exact eqvAll_map h4 xs ys
theorem shaped_of {d : PyData} (h1 : d.canLay0 = true) (h2 : d.depth ≤ 64) : SeqAt.shaped d = true := by
  unfold SeqAt.shaped
  rw [h1, decide_eq_true h2]; rfl
theorem eqP_emb (h : Emb e n) (hn : n ≤ 64) (x y : γ) : eqP (e x) (e y) = some (decide (x = y)) := by
  obtain ⟨g, h1, h2, h3, h4⟩ := h.ex
  unfold eqP
  simp only [h1]
  rw [if_pos ⟨shaped_of (h2 x) (Nat.le_trans (h3 x) hn), shaped_of (h2 y) (Nat.le_trans (h3 y) hn)⟩, h4]
theorem anyP_emb (h : Emb e n) (hn : n < 64) (x : γ) (xs : List γ) : anyP (e x) (xs.map e) = some (decide (x ∈ xs)) := by
  obtain ⟨g, h1, h2, h3, h4⟩ := h.ex
  unfold anyP
  rw [h1, toPDs_map h1]
  simp only []
  rw [if_pos ⟨shaped_of (h2 x) (Nat.le_trans (h3 x) (Nat.le_of_lt hn)), shaped_of (by simp only [PyData.canLay0]; exact canAll_map h2 xs) (by simp only [PyData.depth]; exact Nat.succ_le_of_lt (Nat.lt_of_le_of_lt (depthAll_map h3 xs) hn))⟩]
  congr 1
  rw [List.any_map]
  rw [Bool.eq_iff_iff]
  simp only [List.any_eq_true, Function.comp_apply, h4, decide_eq_true_eq]
  constructor
  · rintro ⟨y, hy, rfl⟩; exact hy
  · intro hx; exact ⟨x, hx, rfl⟩
theorem fEqD_emb (h : Emb e n) (hn : n ≤ 64) (x y : γ) : fEqD (e x) (e y) = some (.imm (.bl (decide (x = y)))) := by unfold fEqD; rw [eqP_emb h hn]; rfl
theorem fNeD_emb (h : Emb e n) (hn : n ≤ 64) (x y : γ) : fNeD (e x) (e y) = some (.imm (.bl (decide (x ≠ y)))) := by
  unfold fNeD; rw [eqP_emb h hn]
  by_cases q : x = y <;> simp [q]
theorem fIn_lst (h : Emb e n) (hn : n < 64) (neg : Bool) (x : γ) (xs : List γ) : fIn neg (e x) (.lst (xs.map e)) = some (.imm (.bl (decide (x ∈ xs) != neg))) := by
  show orf _ _ _ _ = _
  unfold orf
  rw [show fInL neg (e x) (.lst (xs.map e)) = some (.imm (.bl (decide (x ∈ xs) != neg))) from by
    show (anyP (e x) (xs.map e)).map _ = _
    rw [anyP_emb h hn]; rfl]
end
theorem fEqD_i (a b : Int) : fEqD (.int a) (.int b) = some (.imm (.bl (decide (a = b)))) := fEqD_emb emb_int (by decide) a b
theorem fNeD_i (a b : Int) : fNeD (.int a) (.int b) = some (.imm (.bl (decide (a ≠ b)))) := fNeD_emb emb_int (by decide) a b
end Z
set_option Elab.async false
set_option linter.all false
set_option maxRecDepth 100000
namespace Z
open PySem PySem.Spec PyProof.Rows
open L2 hiding XE Takes CX takes_of passes_call passAt MkP PMk ps_raise mk_of ps_try_as ps_try_many pmk_own Takes.imp
open L2N
def Nx (I : Nat → S → Prop) (R : Except Ex Fl → S → Prop) (i : Nat) : Except Ex Fl → S → Prop
  | .ok .nx, s => I (i + 1) s
  | .ok .ct, s => I (i + 1) s
  | .ok .bk, s => R (.ok .nx) s
  | r, s => R r s
section
variable {ws ws0 : List W} {k : Wk} {b : W → Mo Fl} {s : S} {F : Option (Except Ex Fl × S)} {I : Nat → S → Prop} {R : Except Ex Fl → S → Prop} {i : Nat}
@[simp] theorem nx_nx : Nx I R i (.ok .nx) s ↔ I (i + 1) s := Iff.rfl
@[simp] theorem nx_ct : Nx I R i (.ok .ct) s ↔ I (i + 1) s := Iff.rfl
@[simp] theorem nx_bk : Nx I R i (.ok .bk) s ↔ R (.ok .nx) s := Iff.rfl
@[simp] theorem nx_rt {f} : Nx I R i (.ok (.rt f)) s ↔ R (.ok (.rt f)) s := Iff.rfl
@[simp] theorem nx_er {x} : Nx I R i (.error x) s ↔ R (.error x) s := Iff.rfl
end
end Z
set_option Elab.async false
set_option linter.all false
set_option maxRecDepth 100000
namespace Z
open PySem PySem.Spec PyProof.Rows
open L2 hiding XE Takes CX takes_of passes_call passAt MkP PMk ps_raise mk_of ps_try_as ps_try_many pmk_own Takes.imp
open L2N
def Rl (a b : Int) : Prop := RgOk a b
noncomputable instance (a b : Int) : Decidable (Rl a b) := Classical.propDecidable _
noncomputable def fLr1 : W → Option OR
  | .int j => if Rl 0 j then some (.newl (rngW 0 j.toNat)) else none
  | _ => none
section
variable {K : PySem.W.Frag} {mg : Str → Option Value} {ea : EA} {io io' : List Addr} {Fr Fr' : Addr → Prop} {s s' s2 : S} {σ σ' : L2.St} {H H' : Hp} {w : W} {v : V} {c : Cell} {o : HO} {a p : Addr} {ws : List W} {vs : List V} {M : Addr → Prop}
variable {Wx : WX}
theorem rws_rng {lo hi : Int} : Rws K mg io M H (rngW lo (hi - lo).toNat) (rgV lo hi) := by
  refine ⟨by simp [rngW, rgV], fun i w v h1 h2 => ?_⟩
  have hi := get_lt h1
  simp only [rngW, List.length_map, List.length_range] at hi
  simp only [rngW, rgV, List.getElem?_map, List.getElem?_range hi, Option.map_some, Option.some.injEq] at h1 h2
  subst h1 h2
  exact .int _
theorem ref_lr1 {ta : TE} {m : Mo RV} (h : RefE K mg ea Wx ta m) : RefE K mg ea Wx (tLstRg (tRg1 ta)) (mUn fLr1 m) := by
  refine ref_un (r := fun x H Q => ∃ n, x = .int n ∧ RgOk 0 n ∧ ∀ q, H q = none → Q (.ref q) (upd H q (.lst (rgV 0 n)))) (fun io M H x vx z Q rx e q => ?_) h
  unfold fLr1 at e
  split at e
  · split at e
    · rename_i hz
      cases e
      have := rx.int
      subst this
      refine ⟨_, rfl, hz, fun p hp => q p _ hp ?_⟩
      have := rws_rng (K := K) (mg := mg) (io := io) (M := M) (H := H) (lo := 0) (hi := ‹Int›)
      simpa using this
    · cases e
  · cases e
theorem stp_upd {D : Addr} {o' : HO} (hD : M D) : Stp io M (fun _ => False) H io M (upd H D o') where
  p := ⟨fun b u e h => by rw [upd_ne (fun z => by subst z; exact h hD)]; exact e, fun b z => .inl z, fun _ _ e => e⟩
  fr := fun b z => z.elim
  trk := fun b u e => by
    by_cases h : b = D
    · exact ⟨o', by rw [h, upd_same]⟩
    · exact ⟨u, by rw [upd_ne h]; exact e⟩
end
section
variable {X : Cx} {ea : EA} {Wx : WX} {pos p p2 pos2 : Pos} {a b : Expr} {m m' : Mo RV}
def iOf (K : PySem.W.Frag) (mg : Str → Option Value) (ea : EA) (Wx : WX) (m : Mo Wk) : TI := fun σ H R => ∃ io Fr s r s', Sim K mg ea io Fr s σ H ∧ m s = some (r, s') ∧ (∀ k, r = .ok k → ∀ J H' io', PostS K mg ea io Fr s σ H s' σ io' H' → ItG K mg J k io' (Ms io' Fr s' σ) H' → R J H') ∧
  (∀ x, r = .error x → ∀ cls d H' io', PostX K mg ea io Fr s σ H s' σ io' H' x cls d → Wx cls d σ H')
theorem ref_iOf {K : PySem.W.Frag} {mg : Str → Option Value} (m : Mo Wk) : RefI K mg ea Wx (iOf K mg ea Wx m) m := fun σ H io Fr s S0 r s' e Q h1 h2 => ⟨io, Fr, s, r, s', S0, e, h1, h2⟩
theorem Pei.can {tg iter : Expr} {mi : Mo Wk} (h : Pei X ea Wx tg iter mi) : PI X tg iter (iOf X.K X.mg ea Wx mi) := by
  obtain ⟨wi, q, r⟩ := h.ex
  exact ⟨fun pins s σ H R I ⟨io, Fr, s1, r0, s', S0, e, h1, h2⟩ => q.run pins s σ H R I (r σ H io Fr s1 S0 r0 s' e R h1 h2)⟩
theorem pee_lr1 (hm : X.mg "list" = none) (hr : X.mg "range" = none) (h : Pee X ea Wx a m) (hc : X.calm = true := by rfl) (hg : Gl X "list" := by rfl) (hg2 : Gl X "range" := by rfl) (na : starEach [a] X.env = (false, eval a X.env) :: starEach [] X.env := by rfl)
    (nb : starEach [.Call (.Name "range" p2) [a] [] pos2] X.env = (false, eval (.Call (.Name "range" p2) [a] [] pos2) X.env) :: starEach [] X.env := by rfl) :
    Pee X ea Wx (.Call (.Name "list" p) [.Call (.Name "range" p2) [a] [] pos2] [] pos) (mUn fLr1 m) := let ⟨_, q, r⟩ := h.ex; ⟨_, pe_listRg hc hg hm (prg_1 hg2 hr q na) nb, ref_lr1 r⟩
end
end Z
set_option Elab.async false
set_option linter.all false
set_option maxRecDepth 100000
namespace Z
open PySem PySem.Spec PyProof.Rows
open L2 hiding XE Takes CX takes_of passes_call passAt MkP PMk ps_raise mk_of ps_try_as ps_try_many pmk_own Takes.imp
open L2N
section
variable {r : List SV} {G : List Cell} {m ma mb me : Mo RV} {s : S} {vs vs1 : List Nat} {t t1 : W → Mo Unit} {tt tt1 : Mo Bool} {mi mi1 : Mo Wk} {k : Wk} {a b : Int}
@[simp] theorem fLr1_i : fLr1 (.int a) = if Rl 0 a then some (.newl (rngW 0 a.toNat)) else none := rfl
theorem rl_nat {n : Nat} (h : n ≤ 1000000) : Rl 0 (n : Int) := by
  unfold Rl RgOk
  omega
variable {γ δ : Type} {e : γ → W} {e1 : δ → W}
end
def outF : Option (Except Ex Fl × S) → Option (Except Ex FV × List Cell)
  | some (.ok (.rt f), s) => some (.ok f, s.G)
  | some (.ok .nx, s) => some (.ok (.val .non), s.G)
  | some (.error x, s) => some (.error x, s.G)
  | _ => none
theorem fnM_o {n : Nat} {body : Mo Fl} {ws : List W} {G : List Cell} : fnM n body ws G = outF (body ⟨ws.map SV.val ++ List.replicate (n - ws.length) SV.non, G⟩) := rfl
@[simp] theorem outF_rt {f : FV} {s : S} : outF (some (.ok (.rt f), s)) = some (.ok f, s.G) := rfl
@[simp] theorem outF_nx {s : S} : outF (some (.ok .nx, s)) = some (.ok (.val .non), s.G) := rfl
@[simp] theorem outF_er {x : Ex} {s : S} : outF (some (.error x, s)) = some (.error x, s.G) := rfl
end Z
set_option Elab.async false
set_option linter.all false
set_option maxRecDepth 100000
namespace Z
open PySem PySem.Spec PyProof.Rows
open L2 hiding XE Takes CX takes_of passes_call passAt MkP PMk ps_raise mk_of ps_try_as ps_try_many pmk_own Takes.imp
open L2N
def turnSem (tg : Expr) (pos : Pos) (cs : List Expr) (src : Value) (en : Env) (inner : Sem Fin → Sem Fin) (ag : Sem Fin) : Sem Fin := do
  standAt pos
  match ← pyNext src with
  | none => pure (.done .next)
  | some item =>
    letOwnedTupleGo tg src item
    assign tg en item
    let mut fine := true
    for c in cs do if fine then fine ← isTrue c en (eval c en)
    if fine then inner ag else ag
def clauseSem (ex : Expr) (d : Nat) (src : Expr) (acc : Value) (en : Env) (ag : Sem Fin) : Sem Fin := do
  let y ← eval src en
  standAt src.pos
  let y ← foldedSetIterable src en y
  let _ ← runOwn (.compStart ex d (← holding [y] (pyIter y)) acc en) en
  ag
def putSem (ke ve : Expr) (D : Addr) (en : Env) : Sem Unit := do
  let a ← eval ke en
  let b ← holding [a] (eval ve en)
  standAt { ke.pos with endLine := ve.pos.endLine, endCol := ve.pos.endCol }
  holding [a, b] (dictSet D a b)
def putThen (ke ve : Expr) (D : Addr) (en : Env) (ag : Sem Fin) : Sem Fin := do
  putSem ke ve D en
  ag
def startSem (ex : Expr) (d : Nat) (p : Pos) (src acc : Value) (en : Env) : Sem Fin := do
  if (← ask).params.followText "comprehension-iter-twice" then return ← again (.compLoop ex d src acc en)
  rule "comprehension.iter-twice"
  standAt p
  again (.compLoop ex d (← pyIter src) acc en)
section
variable {ke ve t0 i0 t1 i1 t2 i2 : Expr} {f0 f1 f2 : List Expr} {sc : Scope} {pos : Pos} {src acc : Value} {D : Addr} {en : Env}
theorem turn_10 : compTurn (.DictComp ke ve [⟨t0, i0, f0, 0⟩] sc pos) 0 src (.ref D) en = turnSem t0 i0.pos f0 src en (putThen ke ve D en) (again (.compLoop (.DictComp ke ve [⟨t0, i0, f0, 0⟩] sc pos) 0 src (.ref D) en)) := by rfl
theorem turn_30 : compTurn (.DictComp ke ve [⟨t0, i0, f0, 0⟩, ⟨t1, i1, f1, 0⟩, ⟨t2, i2, f2, 0⟩] sc pos) 0 src (.ref D) en = turnSem t0 i0.pos f0 src en (clauseSem (.DictComp ke ve [⟨t0, i0, f0, 0⟩, ⟨t1, i1, f1, 0⟩, ⟨t2, i2, f2, 0⟩] sc pos) 1 i1 (.ref D) en) (again (.compLoop (.DictComp ke ve [⟨t0, i0, f0, 0⟩, ⟨t1, i1, f1, 0⟩, ⟨t2, i2, f2, 0⟩] sc pos) 0 src (.ref D) en)) := by rfl
theorem turn_31 : compTurn (.DictComp ke ve [⟨t0, i0, f0, 0⟩, ⟨t1, i1, f1, 0⟩, ⟨t2, i2, f2, 0⟩] sc pos) 1 src (.ref D) en = turnSem t1 i1.pos f1 src en (clauseSem (.DictComp ke ve [⟨t0, i0, f0, 0⟩, ⟨t1, i1, f1, 0⟩, ⟨t2, i2, f2, 0⟩] sc pos) 2 i2 (.ref D) en) (again (.compLoop (.DictComp ke ve [⟨t0, i0, f0, 0⟩, ⟨t1, i1, f1, 0⟩, ⟨t2, i2, f2, 0⟩] sc pos) 1 src (.ref D) en)) := by rfl
theorem turn_32 : compTurn (.DictComp ke ve [⟨t0, i0, f0, 0⟩, ⟨t1, i1, f1, 0⟩, ⟨t2, i2, f2, 0⟩] sc pos) 2 src (.ref D) en = turnSem t2 i2.pos f2 src en (putThen ke ve D en) (again (.compLoop (.DictComp ke ve [⟨t0, i0, f0, 0⟩, ⟨t1, i1, f1, 0⟩, ⟨t2, i2, f2, 0⟩] sc pos) 2 src (.ref D) en)) := by rfl
theorem start_31 : compStart (.DictComp ke ve [⟨t0, i0, f0, 0⟩, ⟨t1, i1, f1, 0⟩, ⟨t2, i2, f2, 0⟩] sc pos) 1 src acc en = startSem (.DictComp ke ve [⟨t0, i0, f0, 0⟩, ⟨t1, i1, f1, 0⟩, ⟨t2, i2, f2, 0⟩] sc pos) 1 i1.pos src acc en := by rfl
theorem start_32 : compStart (.DictComp ke ve [⟨t0, i0, f0, 0⟩, ⟨t1, i1, f1, 0⟩, ⟨t2, i2, f2, 0⟩] sc pos) 2 src acc en = startSem (.DictComp ke ve [⟨t0, i0, f0, 0⟩, ⟨t1, i1, f1, 0⟩, ⟨t2, i2, f2, 0⟩] sc pos) 2 i2.pos src acc en := by rfl
end
abbrev TB := L2.St → Hp → (Hp → Prop) → Prop
def Clean (L : List Nat) (σ : L2.St) : Prop := ∀ j ∈ L, ∀ v, σ[j]? ≠ some (some v)
structure PB (X : Cx) (inner : Sem Fin → Sem Fin) (L : List Nat) (t : TB) : Prop where
  run : ∀ (pl : List (Addr × Obj)) (s : Shared) (σ : L2.St) (H : Hp) (N : Hp → Prop), Inv X pl σ H s → Clean L σ → t σ H N → ∀ (k : Sem Fin) (Q : Fin → Shared → Prop) (E : Value → Shared → Prop),
    (∀ s' H', Inv X pl σ H' s' → N H' → wpAny (model X.prog X.w) X.A k Q E s') → wpAny (model X.prog X.w) X.A (inner k) Q E s
def tPut (tk tv : TE) (D : Addr) : TB := fun σ H N => tk σ H fun y H1 => tv σ H1 fun z H2 => ∃ kvs ks b, y = .ref b ∧ H2 b = some (.tup (ks.map kV)) ∧ H2 D = some (.dT kvs) ∧ kvs.length < sizeLine ∧ N (upd H2 D (.dT (putK kvs ks z)))
def tLoop (J : It) (g : TG) (tt : TT) (vs : List Nat) (tb : TB) : TB := fun σ H N => ∃ Wn : Nat → Nat → Hp → Prop, (∃ m, Wn 0 m H) ∧ ∀ i m H, Wn i m H → (J.stop i H ∧ N H) ∨ (J.go i H ∧ ∃ N1 : Hp → Prop, (∀ H', N1 H' → ∃ m', m' < m ∧ Wn (i + 1) m' H') ∧
  ∀ x H', J.yld i H x H' → g x (wipe σ vs) H' fun σ2 H2 => wipe σ2 vs = wipe σ vs ∧ tt σ2 H2 fun b H3 => if b = true then tb σ2 H3 N1 else N1 H3)
section
variable {X : Cx}
theorem put_tup {pl : List (Addr × Obj)} {σ : L2.St} {H : Hp} {s : Shared} {D b : Addr} {kvs : List (List Key × V)} {ks : List Key} {v : V} {r : Value} {Q : Unit → Shared → Prop} {E : Value → Shared → Prop} (hu : X.A.units < cLine) (I : Inv X pl σ H s) (eD : H D = some (.dT kvs)) (eb : H b = some (.tup (ks.map kV)))
    (hz : kvs.length < sizeLine) (rv : RelV v r) (nx : ∀ s', Inv X pl σ (upd H D (.dT (putK kvs ks v))) s' → Q () s') : wpAny (model X.prog X.w) X.A (dictSet D (.ref b) r) Q E s := by
  obtain ⟨z1, z2, zs, rl, rd⟩ := dt_of I.hok eD
  have z3 : zs.length ≤ sizeLine := by
    have := Paired.length rl
    omega
  refine wpAny_dictSet_heap (hsz := z3) hu (key_of I.hok eb) rd fun hp2 rd2 same => nx _ ?_
  obtain ⟨o2, es2, ep2, g1, g2, g3, g4, _, g5⟩ := rd2
  have lp := length_putK kvs ks v
  have kp : ∀ c ys, H c = some (.tup ys) → upd H D (.dT (putK kvs ks v)) c = some (.tup ys) := fun c ys ec => by
    rw [upd_ne fun z => by subst z; rw [eD] at ec; cases ec]
    exact ec
  exact d_write I (by rw [eD]; trivial) same ⟨o2, g1⟩ ⟨by omega, z2, _, (rl.put ks eb rv).keeps kp, o2, es2, ep2, g1, g2, g3, g4, g5⟩
theorem pb_put {ke ve : Expr} {tk tv : TE} {D : Addr} (hx : ∀ v s, X.xe v s → False) (hu : X.A.units < cLine) (pk : PE X ke tk) (pv : PE X ve tv) : PB X (putThen ke ve D X.env) [] (tPut tk tv D) := by
  refine ⟨fun pl s σ H N I _ h k Q E hk => ?_⟩
  unfold putThen putSem
  refine wpAny_bind (wpAny_bind (wpAny_mono (pk.run pl s σ H _ I h) (fun a s1 ⟨y, H1, I1, r1, q1⟩ => wpAny_bind (wpAny_holding (wpAny_mono (pv.run pl s1 σ H1 _ I1 q1) (fun b s2 ⟨z, H2, I2, r2, q2⟩ => ?_) fun _ _ z => (hx _ _ z).elim))) fun _ _ z => (hx _ _ z).elim))
  obtain ⟨kvs, ks, bb, rfl, e1, e2, e3, nx⟩ := q2
  cases (show a = Value.ref bb from r1)
  exact wpAny_bind (wpAny_standAt (wpAny_holding (put_tup hu I2 e2 e1 e3 r2 fun s3 I3 => hk s3 _ I3 nx)))
theorem clean_of {L vs : List Nat} {σ σ4 : L2.St} (dj : ∀ i ∈ L, i ∉ vs) (c : Clean L σ) (hw : wipe σ4 vs = wipe σ vs) : Clean L σ4 := fun j hj v e => by
  have h1 := (wipe_get (σ := σ4) (l := vs) (i := j)).1 (dj j hj)
  have h2 := (wipe_get (σ := σ) (l := vs) (i := j)).1 (dj j hj)
  rw [hw, h2] at h1
  exact c j hj v (h1.trans e)
variable {ke ve tg : Expr} {gens : List Comprehension} {sc : Scope} {pos p : Pos} {d : Nat} {D : Addr} {cs : List Expr} {inner : Sem Fin → Sem Fin} {g : TG} {tt : TT} {tb : TB} {vs L : List Nat}
theorem loop_ok {J : It} {fp : List Addr} {tn : Nat → Heap → Prop} {it : Addr} (hx : ∀ v s, X.xe v s → False) (hc : X.calm = true)
    (turn : ∀ v, compTurn (.DictComp ke ve gens sc pos) d v (.ref D) X.env = turnSem tg p cs v X.env inner (again (.compLoop (.DictComp ke ve gens sc pos) d v (.ref D) X.env)))
    (pg : PG X tg g) (pt : PTs X cs tt) (pb : PB X inner L tb) (dj : ∀ i ∈ L, i ∉ vs) (T : Turn X.prog X.w X.K tg J fp it tn) {pl : List (Addr × Obj)} {σ : L2.St} {s : Shared} {H : Hp} {N : Hp → Prop} {R : Result → Shared → Prop} (I : Inv X pl (wipe σ vs) H s) (cl : Clean L σ)
    (st : tn 0 s.heap) (nf : ∀ b ∈ fp, H b = none) (sf : ∀ b ∈ fp, ∀ H', H' b = none → FpOk X pl H' b) (h : tLoop J g tt vs tb σ H N) (hR : ∀ s' H', Inv X pl (wipe σ vs) H' s' → N H' → R (.ok .next) s') :
    codeAny (model X.prog X.w) X.A (.compLoop (.DictComp ke ve gens sc pos) d (.ref it) (.ref D) X.env) R s := by
  obtain ⟨Wn, ⟨m0, w0⟩, stp⟩ := h
  refine codeAny_loop rfl (fun n s' => ∃ i H', Inv X pl (wipe σ vs) H' s' ∧ tn i s'.heap ∧ (∀ b ∈ fp, H' b = none) ∧ Wn i n H') (fun n s1 hI => ?_) m0 ⟨0, H, I, st, nf, w0⟩
  show wpAny _ X.A ((compTurn (.DictComp ke ve gens sc pos) d (.ref it) (.ref D) X.env).onRaise (fun x => do noteFrame x X.env; theTreesLotGoes x)) _ _ s1
  refine wpAny_noted ?_
  rw [turn]
  unfold turnSem
  obtain ⟨i, H1, I1, st1, nf1, w1⟩ := hI
  rcases stp i n H1 w1 with ⟨stop, nx⟩ | ⟨go, N1, hN, step⟩
  · refine wpAny_bind (wpAny_standAt (wpAny_bind (wpAny_mono (T.done X rfl rfl rfl hc i pl s1 _ H1 (fun _ _ => False) I1 (fun b hb => sf b hb _ (nf1 b hb)) st1 stop) (fun r s2 ⟨hr, I2⟩ => ?_) fun _ _ z => z.elim)))
    subst hr
    exact wpAny_pure (hR _ _ I2 nx)
  · refine wpAny_bind (wpAny_standAt (wpAny_bind (wpAny_mono (T.item X rfl rfl rfl hc i pl s1 _ H1 (fun _ _ => False) I1 (fun b hb => sf b hb _ (nf1 b hb)) st1 go) (fun r s2 ⟨u, hr, h2⟩ => ?_) fun _ _ z => z.elim)))
    subst hr
    refine wpAny_bind (wpAny_mono h2 (fun _ s3 ⟨x, H3, I3, rx, y3, st3, nf3⟩ => ?_) fun _ _ z => z.elim)
    have I3' := I3.pinned (fun b hb => sf b hb _ (nf3 b hb)) (T.obj _ _ st3)
    refine wpAny_bind (wpAny_mono (pg.run _ s3 _ H3 x u _ I3' rx (step x H3 y3)) (fun _ s4 ⟨σ4, H4, I4, hw, q4⟩ => ?_) fun _ _ z => (hx _ _ z).elim)
    refine wpAny_bind (wpAny_mono (pt.run _ s4 σ4 H4 _ I4 q4) (fun b s5 ⟨H5, I5, q5⟩ => ?_) fun _ _ z => (hx _ _ z).elim)
    have fin : ∀ s' H', Inv X (pl ++ pinsAt fp s3.heap) σ4 H' s' → N1 H' → ∃ m, m < n ∧ ∃ i H', Inv X pl (wipe σ vs) H' s' ∧ tn i s'.heap ∧ (∀ b ∈ fp, H' b = none) ∧ Wn i m H' := fun s' H' I' nx => by
      obtain ⟨m', hm, w'⟩ := hN H' nx
      have stay : ∀ b ∈ fp, ∀ o, s3.heap.get? b = some o → s'.heap.get? b = some o ∧ H' b = none := fun b hb o e => by
        have := I'.pin (b, o) (List.mem_append_right _ (List.mem_append_right _ (mem_pinsAt hb e)))
        exact ⟨this.1, this.2.1⟩
      refine ⟨m', hm, i + 1, H', I'.unpinned.weak (by rw [← hw, wipe_length]) (fun j v e => ?_), T.keep _ _ _ st3 fun b hb o e => (stay b hb o e).1, fun b hb => ?_, w'⟩
      · rw [← hw] at e
        exact (wipe_some e).1
      · obtain ⟨o, e, _⟩ := T.obj _ _ st3 b hb
        exact (stay b hb o e).2
    cases b with
    | false =>
      rw [if_neg Bool.false_ne_true] at q5 ⊢
      exact wpAny_pure ⟨rfl, fin s5 H5 I5 q5⟩
    | true =>
      rw [if_pos rfl] at q5 ⊢
      exact pb.run _ s5 σ4 H5 N1 I5 (clean_of dj cl hw) q5 _ _ _ fun s6 H6 I6 nx => wpAny_pure ⟨rfl, fin s6 H6 I6 nx⟩
theorem start_ok {src : Addr} {R : Result → Shared → Prop} {s : Shared} (start : ∀ v, compStart (.DictComp ke ve gens sc pos) d v (.ref D) X.env = startSem (.DictComp ke ve gens sc pos) d p v (.ref D) X.env)
    (h : codeAny (model X.prog X.w) X.A (.compLoop (.DictComp ke ve gens sc pos) d (.ref src) (.ref D) X.env) R s) (hi : ∀ (Q : Value → Shared → Prop) (E : Value → Shared → Prop), Q (.ref src) s → wpAny (model X.prog X.w) X.A (pyIter (.ref src)) Q E s) :
    codeAny (model X.prog X.w) X.A (.compStart (.DictComp ke ve gens sc pos) d (.ref src) (.ref D) X.env) R s := by
  refine codeAny_of_tree ?_
  show wpAny _ _ ((compStart (.DictComp ke ve gens sc pos) d (.ref src) (.ref D) X.env).onRaise (fun x => do noteFrame x X.env; standAt theWindowsPlace)) _ _ s
  refine wpAny_notedAt ?_
  rw [start]
  unfold startSem
  refine wpAny_bind (wpAny_askSetting (wpAny_ite ?_))
  split
  · first | exact wpAny_bind (wpAny_pure (wpAny_pure ⟨rfl, h⟩)) | exact wpAny_pure ⟨rfl, h⟩
  · exact wpAny_bind (wpAny_rule (wpAny_bind (wpAny_standAt (wpAny_bind (hi _ _ (wpAny_pure ⟨rfl, h⟩))))))
def tClause (wi : TI) (g : TG) (tt : TT) (vs : List Nat) (tb : TB) : TB := fun σ H N => wi σ H fun J H1 => tLoop J g tt vs tb σ H1 N
theorem pb_clause {src : Expr} {wi : TI} (hx : ∀ v s, X.xe v s → False) (hc : X.calm = true)
    (turn : ∀ v, compTurn (.DictComp ke ve gens sc pos) d v (.ref D) X.env = turnSem tg p cs v X.env inner (again (.compLoop (.DictComp ke ve gens sc pos) d v (.ref D) X.env)))
    (start : ∀ v, compStart (.DictComp ke ve gens sc pos) d v (.ref D) X.env = startSem (.DictComp ke ve gens sc pos) d p v (.ref D) X.env) (hs : ∀ y, foldedSetIterable src X.env y = pure y) (hi : PI X tg src wi) (pg : PG X tg g) (pt : PTs X cs tt) (pb : PB X inner L tb) (dj : ∀ i ∈ L, i ∉ vs) :
    PB X (clauseSem (.DictComp ke ve gens sc pos) d src (.ref D) X.env) (vs ++ L) (tClause wi g tt vs tb) := by
  refine ⟨fun pl s σ H N I cl h k Q E hk => ?_⟩
  unfold clauseSem
  refine wpAny_bind (wpAny_mono (hi.run pl s σ H _ I h) (fun y s1 h1 => ?_) fun _ _ z => (hx _ _ z).elim)
  refine wpAny_bind (wpAny_standAt (wpAny_bind (wpAny_of_eq (hs y) (wpAny_bind (wpAny_holding (wpAny_mono h1 (fun itv s2 h2 => ?_) fun _ _ z => (hx _ _ z).elim))))))
  obtain ⟨it, fp, tn, J, H2, rfl, I2, T, st2, f2, q⟩ := h2
  refine wpAny_bind (wpAny_runOwn ?_)
  rw [Around.mark_none]
  have lp := loop_ok (R := fun r s' => match r with
    | .ok _ => ∃ H', Inv X pl (wipe σ vs) H' s' ∧ N H'
    | .error _ => False) hx hc turn pg pt pb dj T (I2.weak (wipe_length _ _) (fun j v e => (wipe_some e).1)) (fun j hj => cl j (List.mem_append_right _ hj)) st2 (fun b hb => (f2 b hb).1) (fun b hb H' e => ⟨e, (f2 b hb).2⟩) q (fun s' H' I' nx => ⟨H', I', nx⟩)
  refine codeAny_mono (start_ok start lp fun Q E hq => T.self X.A 0 _ _ _ st2 hq) fun r s3 hr => ?_
  cases r with
  | error z => exact hr.elim
  | ok f =>
    obtain ⟨H3, I3, nx⟩ := hr
    refine hk s3 H3 (I3.weak (wipe_length _ _).symm fun j v e => ?_) nx
    have hj : j ∉ vs := fun z => cl j (List.mem_append_left _ z) v e
    rw [(wipe_get (σ := σ) (l := vs) (i := j)).1 hj]
    exact e
end
def tDcF (wi : TI) (g : TG) (tt : TT) (tb : Addr → TB) (vs ow : List Nat) : TE := fun σ H Q => wi σ H fun J H1 => ∀ D, H1 D = none → tLoop J g tt vs (tb D) (wipe σ ow) (upd H1 D (.dT [])) fun H' => ∃ kvs, H' D = some (.dT kvs) ∧ (Q (.ref D) H' ∨ ∀ ob, Q (.ref D) (upd H' D (.frz ob (.dT kvs))))
section
variable {X : Cx} {ke ve tg iter : Expr} {rest : List Comprehension} {scope : Scope} {own : List (Str × Nat)} {pos : Pos} {cs : List Expr} {inner : Addr → Env → Sem Fin → Sem Fin} {wi : TI} {g : TG} {tt : TT} {tb : Addr → TB} {vs L : List Nat}
theorem pe_dcF (hc : X.calm = true) (hN : X.N.Nodup) (hi : PI X tg iter wi) (ok : BlkOk X.N X.env.scope scope own)
    (turn : ∀ D en v, compTurn (.DictComp ke ve (⟨tg, iter, cs, 0⟩ :: rest) scope pos) 0 v (.ref D) en = turnSem tg iter.pos cs v en (inner D en) (again (.compLoop (.DictComp ke ve (⟨tg, iter, cs, 0⟩ :: rest) scope pos) 0 v (.ref D) en)))
    (hg : ∀ (s : Shared) (H : Hp) (C : Addr) (cl : List (Str × Addr)) (fp : List Addr), PG (X.blk s H scope (compEnvC scope cl C X.env) fp) tg g)
    (ht : ∀ (s : Shared) (H : Hp) (C : Addr) (cl : List (Str × Addr)) (fp : List Addr), PTs (X.blk s H scope (compEnvC scope cl C X.env) fp) cs tt)
    (hb : ∀ (s : Shared) (H : Hp) (C : Addr) (cl : List (Str × Addr)) (fp : List Addr) (D : Addr), PB (X.blk s H scope (compEnvC scope cl C X.env) fp) (inner D (compEnvC scope cl C X.env)) L (tb D))
    (dj : ∀ i ∈ L, i ∉ vs) (hL : ∀ i ∈ L, i ∈ own.map (·.2)) (hs : ∀ x, foldedSetIterable iter X.env x = pure x) :
    PE X (.DictComp ke ve (⟨tg, iter, cs, 0⟩ :: rest) scope pos) (tDcF wi g tt tb vs (own.map (·.2))) := by
  refine ⟨fun pl s σ H Q I h => ?_⟩
  rw [arm_eval_DictComp]
  have fr : ∀ y ∈ scope.names, y.2 = .free → ∃ c, X.env.cells.lookup y.1 = some c := fun y hy e => (ok.free y hy e).elim (fun k => I.ok.has _ (.inl k)) fun k => I.ok.has _ (.inr k)
  refine wpAny_comprehension_free (use := none) rfl hs (closure_ok fr) ok.kind (fun y hy e => by rw [ok.uniq y hy, e]) (thn (hi.run pl s σ H _ I h) fun xv s1 h1 => thn h1 fun itv s2 h2 => ?_)
  obtain ⟨it, fp, tn, J, H2, rfl, I2, T, st2, f2, q⟩ := h2
  refine wpAny_newObj_type (newEnv_comp ?_)
  have hDn : H2 s2.heap.objs.size = none := I2.hok.fresh (Nat.le_refl _)
  have q := q _ hDn
  have I3 : Inv X pl σ (upd H2 s2.heap.objs.size (.dT [])) { s2 with heap := s2.heap.push { cls := .type "dict", data := .dict #[] } } :=
    I2.laid (t' := s2.toks) (fun b o e => Heap.get?_push_of_some _ e) (Nat.le_refl _) (dt_empty s2.heap I2.big)
  have h3 : ({ s2 with heap := s2.heap.push { cls := .type "dict", data := .dict #[] } } : Shared).heap = s2.heap.push { cls := .type "dict", data := .dict #[] } := rfl
  generalize ({ s2 with heap := s2.heap.push { cls := .type "dict", data := .dict #[] } } : Shared) = s3 at I3 h3 ⊢
  generalize hD : s2.heap.objs.size = D at hDn q I3 ⊢
  have lt2 : ∀ b ∈ fp, b < s2.heap.objs.size := fun b hb => by
    obtain ⟨o, e, _⟩ := T.obj _ _ st2 b hb
    exact Heap.lt_size e
  generalize hH3 : upd H2 D (.dT []) = H3 at I3 q
  have f3 : ∀ b ∈ fp, FpOk X pl H3 b ∧ b < s3.heap.objs.size := fun b hb => by
    have ne : b ≠ D := by rw [← hD]; exact Nat.ne_of_lt (lt2 b hb)
    refine ⟨⟨by rw [← hH3, upd_ne ne]; exact (f2 b hb).1, (f2 b hb).2⟩, ?_⟩
    rw [h3, Heap.size_push]
    exact Nat.lt_succ_of_lt (lt2 b hb)
  have st3 : tn 0 s3.heap := T.keep _ _ _ st2 fun b _ o e => by rw [h3]; exact Heap.get?_push_of_some _ e
  have I4 := block_start I3 ok hN f3
  have pg := hg s3 H3 s3.heap.objs.size (cellsFrom (s3.heap.objs.size + 1) scope.names (cloFrom X.env.cells scope.names [])) fp
  have pt := ht s3 H3 s3.heap.objs.size (cellsFrom (s3.heap.objs.size + 1) scope.names (cloFrom X.env.cells scope.names [])) fp
  have pb := hb s3 H3 s3.heap.objs.size (cellsFrom (s3.heap.objs.size + 1) scope.names (cloFrom X.env.cells scope.names [])) fp D
  have turn' := turn D (compEnvC scope (cellsFrom (s3.heap.objs.size + 1) scope.names (cloFrom X.env.cells scope.names [])) s3.heap.objs.size X.env)
  show codeAny _ _ (.compStart (.DictComp ke ve (⟨tg, iter, cs, 0⟩ :: rest) scope pos) 0 (.ref it) (.ref D) (compEnvC scope (cellsFrom (s3.heap.objs.size + 1) scope.names (cloFrom X.env.cells scope.names [])) s3.heap.objs.size X.env)) (compPost (model X.prog X.w) X.A X.xe none (EP X pl σ Q) (.ref D) s3.heap.objs.size) { s3 with heap := pushCells (s3.heap.push { cls := .type "dict", data := .dict #[] }) scope.names }
  generalize hce : compEnvC scope (cellsFrom (s3.heap.objs.size + 1) scope.names (cloFrom X.env.cells scope.names [])) s3.heap.objs.size X.env = ce at I4 pg pt pb turn' ⊢
  have cL : ce.locals = s3.heap.objs.size := by subst hce; rfl
  have st4 : tn 0 ({ s3 with heap := pushCells (s3.heap.push { cls := .type "dict", data := .dict #[] }) scope.names } : Shared).heap := T.keep _ _ _ st3 fun b _ o e => pushCells_keeps _ _ _ _ (Heap.get?_push_of_some _ e)
  generalize ({ s3 with heap := pushCells (s3.heap.push { cls := .type "dict", data := .dict #[] }) scope.names } : Shared) = s4 at I4 st4 ⊢
  have sf : ∀ b ∈ fp, ∀ H', H' b = none → FpOk (X.blk s3 H3 scope ce fp) [] H' b := fun b hb H' e =>
    ⟨e, (I4.ok.exf b hb).1, I4.ok.exfs b hb, .inl hb, fun x c z => (I4.ok.exf b hb).2 x c z, fun p hp => absurd (show p ∈ ([] : List (Addr × Obj)) ++ [] from hp) (by simp)⟩
  have cw : Clean L (wipe σ (own.map (·.2))) := fun j hj v e => by
    have := (wipe_some e).2
    exact this (hL j hj)
  have lp := loop_ok (X := X.blk s3 H3 scope ce fp) (R := compPost (model X.prog X.w) X.A X.xe none (EP X pl σ Q) (.ref D) s3.heap.objs.size) (fun _ _ z => z) hc turn' pg pt pb dj T (I4.weak (wipe_length _ _) (fun j v e => (wipe_some e).1)) cw st4 (fun b hb => (f3 b hb).1.1) sf q
    (fun s6 H6 I6 ⟨kvs, hk, qq⟩ => by
      have I7 : Inv X pl σ H6 s6 := I3.call' (ch := fp) I6.os I6.base I6.hok I6.bare fun b hb => ⟨(f3 b hb).1.2.2.2.1, (f3 b hb).1.2.1, (f3 b hb).1.2.2.2.2.1, (f3 b hb).1.2.2.2.2.2⟩
      have nC : H6 s3.heap.objs.size = none := by
        rw [← cL]
        exact I6.free
      obtain ⟨m, hn, _⟩ := I6.loc
      have hn : s6.heap.Ns ce.locals m := hn
      rw [cL] at hn
      refine ⟨m, hn, fun h'' sb => ?_⟩
      obtain ⟨k0, k1, k2, k3, k4, k5⟩ := I3.fpOk (H' := H6) (Nat.le_refl _) nC
      have I8 : Inv X pl σ H6 { s6 with heap := h'' } := I7.turned (t' := s6.toks) (fun b o hb e => (sb.2 b hb).trans e) k0 k1 k3 k4 k5
      rcases qq with open' | shut
      · exact ⟨.ref D, _, I8, rfl, open'⟩
      · obtain ⟨ob, I9⟩ := I8.lock hk trivial
        exact ⟨.ref D, _, I9, rfl, shut ob⟩)
  exact codeAny_compStart_dict lp (T.self X.A 0 _ _ _ st4 lp)
end
end Z
set_option Elab.async false
set_option linter.all false
set_option maxRecDepth 100000
namespace Z
open PySem PySem.Spec PyProof.Rows
open L2 hiding XE Takes CX takes_of passes_call passAt MkP PMk ps_raise mk_of ps_try_as ps_try_many pmk_own Takes.imp
open L2N
abbrev KVs := List (List Key × W)
abbrev MB := KVs → S → Option (KVs × S)
noncomputable def clL (vs : List Nat) (t : W → Mo Unit) (tt : Mo Bool) (body : MB) (k : Wk) : List W → MB
  | [], acc => fun s => if k.ok s then some (acc, s) else none
  | w :: ws, acc => fun s => if k.ok s then (match (bnd (t w) fun _ => tt) s with
    | some (.ok true, s1) => match body acc s1 with
      | some (acc', s2) => clL vs t tt body k ws acc' (wipeS vs s2)
      | none => none
    | some (.ok false, s1) => clL vs t tt body k ws acc (wipeS vs s1)
    | _ => none) else none
noncomputable def putD (mk mv : Mo RV) : MB := fun acc s => match (bnd mk fun x => freeze (settle x)) s with
  | some (.ok kw, s1) => match (bnd mv fun x => freeze (settle x)) s1 with
    | some (.ok vw, s2) => match tkOf kw with
      | some ks => if acc.length < sz then some (putW acc ks vw, s2) else none
      | none => none
    | _ => none
  | _ => none
noncomputable def clM (vs : List Nat) (mi : Mo Wk) (t : W → Mo Unit) (tt : Mo Bool) (body : MB) : MB := fun acc s => match mi s with
  | some (.ok k, s1) => clL vs t tt body k k.ws acc (wipeS vs s1)
  | _ => none
noncomputable def mDcF (ow vs : List Nat) (mi : Mo Wk) (t : W → Mo Unit) (tt : Mo Bool) (body : MB) : Mo RV := bnd mi fun k => fun s => match clL vs t tt body k k.ws [] (wipeS ow s) with
  | some (kvs, s') => some (.ok (.val (.dF kvs)), wipeS ow s')
  | none => none
section
variable {K : PySem.W.Frag} {mg : Str → Option Value} {ea : EA} {io io' : List Addr} {Fr Fr' : Addr → Prop} {s s' s2 : S} {σ σ' : L2.St} {H H' : Hp} {w : W} {v : V} {c : Cell} {o : HO} {a p : Addr} {ws : List W} {vs : List V} {M : Addr → Prop} {Wx : WX}
def RefB (K : PySem.W.Frag) (mg : Str → Option Value) (ea : EA) (tb : Addr → TB) (body : MB) : Prop := ∀ (D : Addr) (σ : L2.St) (H : Hp) (io : List Addr) (Fr : Addr → Prop) (s : S) (acc : KVs) (av : List (List Key × V)), ¬ Fr D → Sim K mg ea io (pls Fr D) s σ H → H D = some (.dT av) → Rkv K mg io (Ms io (pls Fr D) s σ) H acc av →
  ∀ acc' s', body acc s = some (acc', s') → ∀ N : Hp → Prop, (∀ H' io' av', Sim K mg ea io' (pls Fr D) s' σ H' → Stp io (Ms io (pls Fr D) s σ) Fr H io' (Ms io' (pls Fr D) s' σ) H' → H' D = some (.dT av') → Rkv K mg io' (Ms io' (pls Fr D) s' σ) H' acc' av' → N H') → tb D σ H N
theorem Stp.updD {D : Addr} {M M' : Addr → Prop} {o' : HO} (T : Stp io M Fr H io' M' H') (hM : M D) (hF : ¬ Fr D) : Stp io M Fr H io' M' (upd H' D o') where
  p := ⟨fun b u e h => by rw [upd_ne (fun z => by subst z; exact h hM)]; exact T.p.keep b u e h, T.p.new, T.p.ext⟩
  fr := fun b z => by rw [upd_ne (fun e => by subst e; exact hF z)]; exact T.fr b z
  trk := fun b u e => by
    by_cases h : b = D
    · exact ⟨o', by rw [h, upd_same]⟩
    · rw [upd_ne h]; exact T.trk b u e
theorem ref_put {tk tv : TE} {mk mv : Mo RV} (hk : RefE K mg ea W0 tk mk) (hv : RefE K mg ea W0 tv mv) : RefB K mg ea (tPut tk tv) (putD mk mv) := by
  intro D σ H io Fr s acc av nD S0 hD R0 acc' s' e N hN
  unfold putD at e
  cases e1 : (bnd mk fun x => freeze (settle x)) s with
  | none => rw [e1] at e; cases e
  | some pr =>
    obtain ⟨rk, s1⟩ := pr
    rw [e1] at e
    cases rk with
    | error z => cases e
    | ok kw =>
      simp only at e
      cases e2 : (bnd mv fun x => freeze (settle x)) s1 with
      | none => rw [e2] at e; cases e
      | some pr2 =>
        obtain ⟨rv, s3⟩ := pr2
        rw [e2] at e
        cases rv with
        | error z => cases e
        | ok vw =>
          simp only at e
          cases e3 : tkOf kw with
          | none => rw [e3] at e; cases e
          | some ks =>
            rw [e3] at e
            simp only at e
            split at e
            · rename_i hz
              cases e
              refine one2 hk S0 e1 (fun x q => by cases q) fun x vx s4 H1 io1 e4 px => ?_
              obtain ⟨S1, T1, R1⟩ := px.settled
              obtain ⟨_, l1, S1, w', q, R1⟩ := freeze_ok S1 R1 e4
              cases q
              have T1 := T1.less l1
              refine one2 hv S1 e2 (fun x q => by cases q) fun x2 vx2 s5 H2 io2 e5 px2 => ?_
              obtain ⟨S2, T2, R2⟩ := px2.settled
              obtain ⟨_, l2, S2, w', q, R2⟩ := freeze_ok S2 R2 e5
              cases q
              have T2 := T2.less l2
              have Rk := R1.pers T2.p
              obtain ⟨w1, ws1, rfl, e6⟩ := tk_inv e3
              obtain ⟨b, us, rfl, hb, r6⟩ := (Rn.of Rk).tup1
              have hD2 : H2 D = some (.dT av) := by rw [T2.fr D (.inr rfl), T1.fr D (.inr rfl)]; exact hD
              have RA := (R0.pers T1.p).pers T2.p
              refine ⟨av, ks, b, rfl, by rw [hb, r6.keys e6], hD2, by rw [sz_eq, ← RA.length]; exact hz, ?_⟩
              have S3 := S2.updFr (o' := .dT (putK av ks vx2)) (.inr rfl) hD2
              have MD : Ms io (pls Fr D) s σ D := .inr (.inl (.inr rfl))
              have MD2 : Ms io2 (pls Fr D) s' σ D := .inr (.inl (.inr rfl))
              have T3 : Stp io (Ms io (pls Fr D) s σ) Fr H io2 (Ms io2 (pls Fr D) s' σ) (upd H2 D (.dT (putK av ks vx2))) := ((T1.trans T2).frless pls.sub).updD MD nD
              have PD : Pers io2 (Ms io2 (pls Fr D) s' σ) H2 io2 (Ms io2 (pls Fr D) s' σ) (upd H2 D (.dT (putK av ks vx2))) := (stp_upd MD2).p
              exact hN _ io2 _ S3 T3 upd_same ((RA.put R2).pers PD)
            · cases e
theorem ref_loop {g : TG} {tt : TT} {tb : Addr → TB} {t : W → Mo Unit} {mt : Mo Bool} {body : MB} {l vs L : List Nat} (hg : RefG K mg ea g t l) (hl : ∀ i ∈ l, i ∈ vs) (ht : RefT K mg ea W0 tt mt) (hb : RefB K mg ea tb body) {J : It} {kw : Wk} {io0 : List Addr} {M0 : Addr → Prop} {H0 : Hp} (G : ItG K mg J kw io0 M0 H0)
    {D : Addr} {acc acc' : KVs} {av : List (List Key × V)} (nD : ¬ Fr D) (S0 : Sim K mg ea io (pls Fr D) s (wipe σ vs) H) (T0 : Stp io0 M0 (fun _ => False) H0 io (Ms io (pls Fr D) s (wipe σ vs)) H) (hD : H D = some (.dT av)) (R0 : Rkv K mg io (Ms io (pls Fr D) s (wipe σ vs)) H acc av) (w0 : ∀ j, j ∈ vs → s.r[j]? = some .non ∨ s.r[j]? = none)
    (e : clL vs t mt body kw kw.ws acc s = some (acc', s')) {N : Hp → Prop} (hN : ∀ H' io' av', Sim K mg ea io' (pls Fr D) s' (wipe σ vs) H' → Stp io (Ms io (pls Fr D) s (wipe σ vs)) Fr H io' (Ms io' (pls Fr D) s' (wipe σ vs)) H' → H' D = some (.dT av') → Rkv K mg io' (Ms io' (pls Fr D) s' (wipe σ vs)) H' acc' av' → (∀ j, j ∈ vs → s'.r[j]? = some .non ∨ s'.r[j]? = none) → N H') : tLoop J g tt vs (tb D) σ H N := by
  have nF : ∀ {b}, (fun _ : Addr => False) b → Fr b := fun z => z.elim
  refine ⟨fun i m H2 => m = kw.ws.length - i ∧ i ≤ kw.ws.length ∧ ∃ io2 s2 acc2 av2, Sim K mg ea io2 (pls Fr D) s2 (wipe σ vs) H2 ∧ Stp io (Ms io (pls Fr D) s (wipe σ vs)) Fr H io2 (Ms io2 (pls Fr D) s2 (wipe σ vs)) H2 ∧
    H2 D = some (.dT av2) ∧ Rkv K mg io2 (Ms io2 (pls Fr D) s2 (wipe σ vs)) H2 acc2 av2 ∧ (∀ j, j ∈ vs → s2.r[j]? = some .non ∨ s2.r[j]? = none) ∧ clL vs t mt body kw (kw.ws.drop i) acc2 s2 = some (acc', s'),
    ⟨kw.ws.length, by simp, Nat.zero_le _, io, s, acc, av, S0, .refl, hD, R0, w0, by simpa using e⟩, ?_⟩
  rintro i m H2 ⟨rfl, hle, io2, s2, acc2, av2, S2, T2, hA, RA, wn, e3⟩
  have ck : kw.ok s2 := by
    cases hd : kw.ws.drop i with
    | nil => rw [hd] at e3; unfold clL at e3; split at e3; assumption; cases e3
    | cons w ws => rw [hd] at e3; unfold clL at e3; split at e3; assumption; cases e3
  have cn := cn_of S2 ck
  have T02 := T0.trans (T2.frless fun b z => z.elim)
  by_cases hlt : i < kw.ws.length
  · refine .inr ⟨G.go _ _ _ T02.p cn i hlt, fun H3 => ∃ io3 s3 acc3 av3, Sim K mg ea io3 (pls Fr D) s3 (wipe σ vs) H3 ∧ Stp io (Ms io (pls Fr D) s (wipe σ vs)) Fr H io3 (Ms io3 (pls Fr D) s3 (wipe σ vs)) H3 ∧
      H3 D = some (.dT av3) ∧ Rkv K mg io3 (Ms io3 (pls Fr D) s3 (wipe σ vs)) H3 acc3 av3 ∧ (∀ j, j ∈ vs → s3.r[j]? = some .non ∨ s3.r[j]? = none) ∧ clL vs t mt body kw (kw.ws.drop (i + 1)) acc3 s3 = some (acc', s'),
      fun H3 ⟨io3, s3, acc3, av3, a1, a2, a3, a4, a5, a6⟩ => ⟨kw.ws.length - (i + 1), by omega, rfl, hlt, io3, s3, acc3, av3, a1, a2, a3, a4, a5, a6⟩, fun x H3 y => ?_⟩
    rw [drop_get hlt] at e3
    have item : ∃ io3, Sim K mg ea io3 (pls Fr D) s2 (wipe σ vs) H3 ∧ Stp io2 (Ms io2 (pls Fr D) s2 (wipe σ vs)) (pls Fr D) H2 io3 (Ms io3 (pls Fr D) s2 (wipe σ vs)) H3 ∧ Rw K mg io3 (Ms io3 (pls Fr D) s2 (wipe σ vs)) H3 kw.ws[i] x := by
      rcases G.yld _ _ _ T02.p cn (fun a z => S2.trkN z) i x H3 y kw.ws[i] (by simp [hlt]) with ⟨rfl, r⟩ | ⟨p, us, ws', hp, rfl, hw, rfl, r⟩
      · exact ⟨io2, S2, .refl, r⟩
      · obtain ⟨S3, T3⟩ := S2.laid (o := .tup us) hp
        have r' := r.pers T3.p
        refine ⟨io2, S3, T3, ?_⟩
        rw [hw]
        refine .tup (.inl ⟨upd_same, fun z => ?_⟩) r'.1 r'.2
        obtain ⟨u, e⟩ := S2.trk z
        rw [hp] at e; cases e
    obtain ⟨io3, S3, T3, R3⟩ := item
    have T23 := T2.trans (T3.frless pls.sub)
    have hA3 : H3 D = some (.dT av2) := (T3.fr D (.inr rfl)).trans hA
    have RA3 := RA.pers T3.p
    unfold clL at e3
    rw [if_pos ck] at e3
    cases ex : (bnd (t kw.ws[i]) fun _ => mt) s2 with
    | none => rw [ex] at e3; cases e3
    | some pr =>
      obtain ⟨rb, s4⟩ := pr
      rw [ex] at e3
      rcases bnd_some ex with ⟨z, e5, rfl⟩ | ⟨_, s5, e5, e6⟩
      · have := hg.ne _ _ _ _ e5
        cases this
      · refine hg.go (wipe σ vs) H3 io3 (pls Fr D) s2 _ x S3 R3 _ _ e5 _ fun σ5 S5 l5 n5 k5 => ?_
        have k5' : ∀ j, j ∉ vs → σ5[j]? = (wipe σ vs)[j]? := fun j hj => k5 j fun z => hj (hl j z)
        have we : wipe σ5 vs = wipe σ vs := by rw [wipe_eq n5 k5', wipe_wipe]
        refine ⟨we, ?_⟩
        have T5 : Stp io3 (Ms io3 (pls Fr D) s2 (wipe σ vs)) (pls Fr D) H3 io3 (Ms io3 (pls Fr D) s5 σ5) H3 := Stp.refl.less l5
        have back : ∀ {s6 : S} {H6 : Hp} {io6 : List Addr}, Sim K mg ea io6 (pls Fr D) s6 σ5 H6 → Sim K mg ea io6 (pls Fr D) (wipeS vs s6) (wipe σ vs) H6 ∧ (∀ b, Ms io6 (pls Fr D) (wipeS vs s6) (wipe σ vs) b → Ms io6 (pls Fr D) s6 σ5 b) := fun S6 =>
          S6.wiped (by rw [n5]) fun j hj => (k5' j hj).symm
        cases rb with
        | error z => cases e3
        | ok b =>
          refine ht σ5 H3 io3 (pls Fr D) s5 S5 _ _ e6 _ (fun b' q H6 io6 p6 => ?_) fun z q => by cases q
          cases q
          have T36 := T23.trans ((T5.trans p6.2).frless pls.sub)
          have hA6 : H6 D = some (.dT av2) := (p6.2.fr D (.inr rfl)).trans hA3
          have RA6 := (RA3.pers T5.p).pers p6.2.p
          cases b with
          | false =>
            rw [if_neg Bool.false_ne_true]
            obtain ⟨S7, l7⟩ := back p6.1
            exact ⟨io6, _, acc2, av2, S7, T36.less l7, hA6, RA6.pers (.less l7), fun j hj => (wipeR_get (r := s4.r)).2 hj, e3⟩
          | true =>
            rw [if_pos rfl]
            simp only at e3
            cases eb : body acc2 s4 with
            | none => rw [eb] at e3; cases e3
            | some pr2 =>
              obtain ⟨acc3, s7⟩ := pr2
              rw [eb] at e3
              simp only at e3
              refine hb D σ5 H6 io6 Fr s4 acc2 av2 nD p6.1 hA6 RA6 _ _ eb _ fun H8 io8 av8 S8 T8 hA8 RA8 => ?_
              obtain ⟨S9, l9⟩ := back S8
              exact ⟨io8, _, acc3, av8, S9, (T36.trans T8).less l9, hA8, RA8.pers (.less l9), fun j hj => (wipeR_get (r := s7.r)).2 hj, e3⟩
  · have hi' : i = kw.ws.length := by omega
    subst hi'
    rw [List.drop_length] at e3
    unfold clL at e3
    rw [if_pos ck] at e3
    cases e3
    exact .inl ⟨G.stop _ _ _ T02.p cn, hN _ io2 av2 S2 T2 hA RA wn⟩
theorem ref_clause {wi : TI} {g : TG} {tt : TT} {tb : Addr → TB} {mi : Mo Wk} {t : W → Mo Unit} {mt : Mo Bool} {body : MB} {l vs : List Nat} (hi : RefI K mg ea W0 wi mi) (hg : RefG K mg ea g t l) (hl : ∀ i ∈ l, i ∈ vs) (ht : RefT K mg ea W0 tt mt) (hb : RefB K mg ea tb body) : RefB K mg ea (fun D => tClause wi g tt vs (tb D)) (clM vs mi t mt body) := by
  intro D σ H io Fr s acc av nD S0 hD R0 acc' s' e N hN
  unfold clM at e
  cases e1 : mi s with
  | none => rw [e1] at e; cases e
  | some pr =>
    obtain ⟨rk, s1⟩ := pr
    rw [e1] at e
    cases rk with
    | error z => cases e
    | ok kw =>
      simp only at e
      refine hi σ H io (pls Fr D) s S0 _ _ e1 _ (fun kw' q J H1 io1 p1 G => ?_) fun z q => by cases q
      cases q
      obtain ⟨S2, l2⟩ := p1.1.wiped (l := vs) (σ' := wipe σ vs) (wipe_length σ vs) fun j hj => (wipe_get (σ := σ)).1 hj
      have hD1 : H1 D = some (.dT av) := (p1.2.fr D (.inr rfl)).trans hD
      have R1 := (R0.pers p1.2.p).pers (.less l2)
      refine ref_loop (L := []) hg hl ht hb G nD S2 (Stp.refl.less l2) hD1 R1 (fun j hj => (wipeR_get (r := s1.r)).2 hj) e fun H3 io3 av3 S3 T3 hA3 RA3 wn => ?_
      obtain ⟨S4, l4⟩ := S3.sub (r' := s'.r) (σ' := σ) (by rw [S3.len, wipe_length]) fun j => by
        by_cases hj : j ∈ vs
        · exact .inr (wn j hj)
        · exact .inl ⟨rfl, ((wipe_get (σ := σ)).1 hj).symm⟩
      exact hN H3 io3 av3 S4 (((p1.2.frless pls.sub).less l2 |>.trans T3).less l4) hA3 (RA3.pers (.less l4))
theorem ref_dcF {wi : TI} {g : TG} {tt : TT} {tb : Addr → TB} {mi : Mo Wk} {t : W → Mo Unit} {mt : Mo Bool} {body : MB} {l vs ow : List Nat} (hi : RefI K mg ea Wx wi mi) (hg : RefG K mg ea g t l) (hl : ∀ i ∈ l, i ∈ vs) (hv : ∀ i ∈ vs, i ∈ ow) (ht : RefT K mg ea W0 tt mt) (hb : RefB K mg ea tb body) : RefE K mg ea Wx (tDcF wi g tt tb vs ow) (mDcF ow vs mi t mt body) := by
  intro σ H io Fr s S0 r0 s' e Q hok hex
  rcases bnd_some e with ⟨x, e1, rfl⟩ | ⟨kw, s1, e1, e2⟩
  · exact hi σ H io Fr s S0 _ _ e1 _ (fun _ q => by cases q) fun x' q cls d H' io' px => by
      cases q
      exact hex _ rfl cls d H' io' px
  · refine hi σ H io Fr s S0 _ _ e1 _ (fun kw' q J H1 io1 px G => ?_) (fun _ q => by cases q)
    cases q
    intro D hD
    obtain ⟨SD, TD, nD⟩ := px.1.alloc (o := .dT []) hD
    have nFD : ¬ Fr D := fun z => nD (.inl z)
    obtain ⟨SW, lW⟩ := SD.wiped (l := ow) (σ' := wipe σ ow) (wipe_length σ ow) fun j hj => (wipe_get (σ := σ)).1 hj
    have ww : wipe (wipe σ ow) vs = wipe σ ow := by
      apply List.ext_getElem?
      intro j
      by_cases hj : j ∈ vs
      · rcases Nat.lt_or_ge j σ.length with q | q
        · rw [(wipe_get (σ := wipe σ ow)).2 hj (by rw [wipe_length]; exact q), (wipe_get (σ := σ)).2 (hv j hj) q]
        · rw [List.getElem?_eq_none (by rw [wipe_length, wipe_length]; exact q), List.getElem?_eq_none (by rw [wipe_length]; exact q)]
      · rw [(wipe_get (σ := wipe σ ow)).1 hj]
    cases el : clL vs t mt body kw kw.ws [] (wipeS ow s1) with
    | none => rw [el] at e2; cases e2
    | some pr =>
      obtain ⟨kvs, s3⟩ := pr
      rw [el] at e2
      simp only at e2
      cases e2
      have lW0 := lW
      rw [← ww] at SW lW
      refine ref_loop (L := []) hg hl ht hb G nFD SW ((TD.frless fun b z => z.elim).less lW) upd_same Rkv.nil (fun j hj => (wipeR_get (r := s1.r)).2 (hv j hj)) el fun H3 io3 av3 S3 T3 hA3 RA3 wn => ⟨av3, hA3, .inr fun ob => ?_⟩
      rw [ww] at S3 T3 RA3
      have hDn : ∀ b, b = D → ¬ (b ∈ io3 ∨ FrO Fr s3.r (wipe σ ow) b) := fun b hb z => by
        subst hb
        rcases z with z | z | ⟨j, c, h1, h2⟩
        · exact S3.g.dj b z (.inl (.inr rfl))
        · exact nFD z
        · obtain ⟨b', o, q1, _, _, q4⟩ := S3.own j c h1
          rw [h2] at q1
          cases q1
          exact q4 (.inr rfl)
      have S4 : Sim K mg ea io3 Fr s3 (wipe σ ow) (upd H3 D (.frz ob (.dT av3))) := by
        refine S3.change (fun b z => .inl z) (fun b o hb hM => ?_) (fun b hb => ?_) (fun b z => ?_)
        · rw [upd_ne (fun z => hM (.inr (.inl (.inr z))))]; exact hb
        · rw [upd_ne (fun z => hDn b z (hb.imp id fun z => .inr z))]
        · obtain ⟨o, ho, n⟩ := S3.g.fr b (.inl (.inl z))
          exact ⟨o, by rw [upd_ne (show b ≠ D from fun z' => nFD (by rw [← z']; exact z))]; exact ho, n⟩
      obtain ⟨S5, l5⟩ := S4.sub (r' := (wipeS ow s3).r) (σ' := σ) (by show (wipeR s3.r ow).length = σ.length; rw [wipeR_len, S4.len, wipe_length]) fun j => by
        by_cases hj : j ∈ ow
        · exact .inr ((wipeR_get (r := s3.r)).2 hj)
        · exact .inl ⟨(wipeR_get (r := s3.r)).1 hj, ((wipe_get (σ := σ)).1 hj).symm⟩
      have lD : ∀ b, Ms io3 Fr s3 (wipe σ ow) b → Ms io3 (pls Fr D) s3 (wipe σ ow) b := fun b z => Ms.mono (fun b z => .inl z) b z
      have T13 : Stp io1 (Ms io1 Fr s1 σ) Fr H1 io3 (Ms io3 (pls Fr D) s3 (wipe σ ow)) H3 := (TD.less lW0).trans T3
      have PF : Pers io3 (Ms io3 (pls Fr D) s3 (wipe σ ow)) H3 io3 (Ms io3 Fr (wipeS ow s3) σ) (upd H3 D (.frz ob (.dT av3))) :=
        ⟨fun b u e h => by rw [upd_ne (fun z => by subst z; exact h (.inr (.inl (.inr rfl))))]; exact e, fun b z => .inl (lD b (l5 b z)), fun _ _ e => e⟩
      have T5 : Stp io1 (Ms io1 Fr s1 σ) Fr H1 io3 (Ms io3 Fr (wipeS ow s3) σ) (upd H3 D (.frz ob (.dT av3))) := (T13.updNew hD nFD hA3).less fun b z => lD b (l5 b z)
      have RF := RA3.pers PF
      refine hok _ rfl (.ref D) _ io3 ⟨S5, px.2.trans T5, .dF upd_same (fun z => ?_) RF.1 RF.2.2⟩
      exact hDn D rfl (l5 D z)
end
end Z
set_option Elab.async false
set_option linter.all false
set_option maxRecDepth 100000
namespace Z
open PySem PySem.Spec PyProof.Rows
open L2 hiding XE Takes CX takes_of passes_call passAt MkP PMk ps_raise mk_of ps_try_as ps_try_many pmk_own Takes.imp
open L2N
def kW : Key → W
  | .inl i => .int i
  | .inr x => .str x
def keyW (ks : List Key) : W := .tup (ks.map kW)
section
variable {K : PySem.W.Frag} {mg : Str → Option Value} {ea : EA} {io io' : List Addr} {Fr Fr' : Addr → Prop} {s s' s2 : S} {σ σ' : L2.St} {H H' : Hp} {w : W} {v : V} {c : Cell} {o : HO} {a p : Addr} {ws : List W} {vs : List V} {M : Addr → Prop} {Wx : WX}
theorem rw_kW (k : Key) : Rw K mg io M H (kW k) (kV k) := by
  cases k with
  | inl i => exact .int i
  | inr x => exact .str x
theorem rw_keyW {ks : List Key} {q : Addr} (h : H q = some (.tup (ks.map kV))) (hn : ¬ M q) : Rw K mg io M H (keyW ks) (.ref q) := by
  refine .tup (.inl ⟨h, hn⟩) (by simp) fun i w v h1 h2 => ?_
  rw [List.getElem?_map] at h1 h2
  cases e : ks[i]? with
  | none => rw [e] at h1; cases h1
  | some k => rw [e] at h1 h2; cases h1; cases h2; exact rw_kW k
theorem itg_dF {d : Addr} {ob : Obj} {kvs : List (List Key × W)} {av : List (List Key × V)} (h : H d = some (.frz ob (.dT av))) (hn : ¬ M d) (r : kvs.map (·.1) = av.map (·.1)) : ItG K mg (Itkt d ob av) ⟨kvs.map fun p => keyW p.1, none⟩ io M H := by
  have hl : kvs.length = av.length := by simpa using congrArg List.length r
  exact {
    go := fun io' M' H' P _ i hi => ⟨P.keep _ _ h hn, by rw [← hl]; simpa using hi⟩
    stop := fun io' M' H' P _ => ⟨P.keep _ _ h hn, by simp [hl]⟩
    yld := fun io' M' H' P _ nt i x H2 y w hw => by
      obtain ⟨rfl, k, u, q, h1, rfl, h2⟩ := y
      refine .inl ⟨rfl, ?_⟩
      have hk : (kvs.map (·.1))[i]? = some k := by rw [r, List.getElem?_map, h1]; rfl
      have e : w = keyW k := by
        rw [List.getElem?_map] at hw hk
        cases e : kvs[i]? with
        | none => rw [e] at hw; cases hw
        | some p => rw [e] at hw hk; cases hw; cases hk; rfl
      subst e
      exact rw_keyW h2 fun z => by
        obtain ⟨o, ho, hno⟩ := nt q z
        exact Nt.of ho hno _ h2 }
def fLenD : List W → Option OR
  | [.dF kvs] => some (.imm (.int (kvs.length : Nat)))
  | _ => none
theorem cm_lenD {X : Cx} : CallM X (.builtin "len") fLenD := by
  refine ⟨fun xs H Q => ∃ (d : Addr) (ob : Obj) (kvs : List (List Key × V)), xs = [.ref d] ∧ H d = some (.frz ob (.dT kvs)) ∧ Q (.int (kvs.length : Nat)) H, ?_, fun io M H ws vs z Q rx e q => ?_⟩
  · intro pl s σ H xs us Q I r h
    obtain ⟨d, ob, kvs, rfl, hd, q⟩ := h
    obtain ⟨u, rfl, rx⟩ := r.one
    cases (show u = Value.ref d from rx)
    obtain ⟨z1, z2, ys, rl, rd⟩ := dt_rd I.hok (.inr ⟨ob, hd⟩)
    have hl : kvs.length = ys.length := Paired.length rl
    have z3 : ys.length ≤ 16777216 := by rw [sizeLine_eq] at z1; omega
    refine call_len_dictH z2 rd (by omega) ?_
    rw [← hl]
    exact ⟨.int ((kvs.length : Nat) : Int), H, I.tok _, ⟨_, rfl⟩, q⟩
  · unfold fLenD at e
    split at e
    · obtain ⟨v, rfl, r⟩ := p1 rx
      cases e
      obtain ⟨d, ob, av, rfl, hd, _, rr⟩ := r.dF
      refine ⟨d, ob, av, rfl, hd, ?_⟩
      rw [← rr.length]
      exact q _ (.int _)
    · cases e
end
section
variable {X : Cx} {ea : EA} {Wx : WX} {pos : Pos} {ke ve tg iter : Expr} {ifs : List Expr} {scope : Scope} {own : List (Str × Nat)} {mi : Mo Wk} {t : W → Mo Unit} {l : List Nat} {mt : Mo Bool} {mk mv me : Mo RV}
structure BlkD (X : Cx) (ea : EA) (tg ke ve : Expr) (ifs : List Expr) (scope : Scope) (own : List (Str × Nat)) (t : W → Mo Unit) (l : List Nat) (mt : Mo Bool) (mk mv : Mo RV) : Prop where
  ok : BlkOk X.N X.env.scope scope own
  ne : ∀ w s r s', t w s = some (r, s') → r = .ok ()
  sub : ∀ i ∈ l, i ∈ own.map (·.2)
  tg : ∀ (s : Shared) (H : Hp) (C : Addr) (cl : List (Str × Addr)) (fp : List Addr), Peg (X.blk s H scope (compEnvC scope cl C X.env) fp) ea tg t l
  ts : ∀ (s : Shared) (H : Hp) (C : Addr) (cl : List (Str × Addr)) (fp : List Addr), Pets (X.blk s H scope (compEnvC scope cl C X.env) fp) ea W0 ifs mt
  ky : ∀ (s : Shared) (H : Hp) (C : Addr) (cl : List (Str × Addr)) (fp : List Addr), Pee (X.blk s H scope (compEnvC scope cl C X.env) fp) ea W0 ke mk
  vl : ∀ (s : Shared) (H : Hp) (C : Addr) (cl : List (Str × Addr)) (fp : List Addr), Pee (X.blk s H scope (compEnvC scope cl C X.env) fp) ea W0 ve mv
theorem pee_dc (hu : X.A.units < cLine) (hN : X.N.Nodup) (hi : Pei X ea Wx tg iter mi) (b : BlkD X ea tg ke ve ifs scope own t l mt mk mv) (hc : X.calm = true := by rfl) (hs : ∀ x, foldedSetIterable iter X.env x = pure x := by intro _; rfl) :
    Pee X ea Wx (.DictComp ke ve [⟨tg, iter, ifs, 0⟩] scope pos) (mDcF (own.map (·.2)) (own.map (·.2)) mi t mt (putD mk mv)) := by
  obtain ⟨wi, p, r⟩ := hi.ex
  refine ⟨_, pe_dcF (g := gOf X.K X.mg ea t l) (tt := ttOf X.K X.mg ea W0 mt) (inner := fun D en => putThen ke ve D en) (tb := fun D => tPut (tOf X.K X.mg ea W0 mk) (tOf X.K X.mg ea W0 mv) D) (L := []) (vs := own.map (·.2)) hc hN p b.ok (fun D en v => turn_10) (fun s H C cl fp => (b.tg s H C cl fp).can) (fun s H C cl fp => (b.ts s H C cl fp).can)
    (fun s H C cl fp D => pb_put (X := X.blk s H scope (compEnvC scope cl C X.env) fp) (fun _ _ z => z) hu (b.ky s H C cl fp).can (b.vl s H C cl fp).can) (fun _ z => by simp at z) (fun _ z => by simp at z) hs, ?_⟩
  exact ref_dcF r (ref_gOf b.ne) b.sub (fun _ z => z) (ref_ttOf _) (ref_put (ref_tOf _) (ref_tOf _))
structure BlkD3 (X : Cx) (ea : EA) (tg ke ve : Expr) (ifs : List Expr) (tg1 i1 : Expr) (f1 : List Expr) (tg2 i2 : Expr) (f2 : List Expr) (scope : Scope) (own : List (Str × Nat)) (v0 v1 v2 : List Nat) (t : W → Mo Unit) (l : List Nat) (mt : Mo Bool) (mi1 : Mo Wk) (t1 : W → Mo Unit) (l1 : List Nat) (mt1 : Mo Bool) (mi2 : Mo Wk) (t2 : W → Mo Unit) (l2 : List Nat) (mt2 : Mo Bool) (mk mv : Mo RV) : Prop where
  ok : BlkOk X.N X.env.scope scope own
  ne : ∀ w s r s', t w s = some (r, s') → r = .ok ()
  ne1 : ∀ w s r s', t1 w s = some (r, s') → r = .ok ()
  ne2 : ∀ w s r s', t2 w s = some (r, s') → r = .ok ()
  sub : ∀ i ∈ l, i ∈ v0
  sub1 : ∀ i ∈ l1, i ∈ v1
  sub2 : ∀ i ∈ l2, i ∈ v2
  hv : (∀ i ∈ v0, i ∈ own.map (·.2)) ∧ (∀ i ∈ v1 ++ (v2 ++ []), i ∈ own.map (·.2)) ∧ (∀ i ∈ v1 ++ (v2 ++ []), i ∉ v0) ∧ ∀ i ∈ v2 ++ [], i ∉ v1
  tg : ∀ (s : Shared) (H : Hp) (C : Addr) (cl : List (Str × Addr)) (fp : List Addr), Peg (X.blk s H scope (compEnvC scope cl C X.env) fp) ea tg t l
  ts : ∀ (s : Shared) (H : Hp) (C : Addr) (cl : List (Str × Addr)) (fp : List Addr), Pets (X.blk s H scope (compEnvC scope cl C X.env) fp) ea W0 ifs mt
  it1 : ∀ (s : Shared) (H : Hp) (C : Addr) (cl : List (Str × Addr)) (fp : List Addr), Pei (X.blk s H scope (compEnvC scope cl C X.env) fp) ea W0 tg1 i1 mi1
  tg1 : ∀ (s : Shared) (H : Hp) (C : Addr) (cl : List (Str × Addr)) (fp : List Addr), Peg (X.blk s H scope (compEnvC scope cl C X.env) fp) ea tg1 t1 l1
  ts1 : ∀ (s : Shared) (H : Hp) (C : Addr) (cl : List (Str × Addr)) (fp : List Addr), Pets (X.blk s H scope (compEnvC scope cl C X.env) fp) ea W0 f1 mt1
  it2 : ∀ (s : Shared) (H : Hp) (C : Addr) (cl : List (Str × Addr)) (fp : List Addr), Pei (X.blk s H scope (compEnvC scope cl C X.env) fp) ea W0 tg2 i2 mi2
  tg2 : ∀ (s : Shared) (H : Hp) (C : Addr) (cl : List (Str × Addr)) (fp : List Addr), Peg (X.blk s H scope (compEnvC scope cl C X.env) fp) ea tg2 t2 l2
  ts2 : ∀ (s : Shared) (H : Hp) (C : Addr) (cl : List (Str × Addr)) (fp : List Addr), Pets (X.blk s H scope (compEnvC scope cl C X.env) fp) ea W0 f2 mt2
  ky : ∀ (s : Shared) (H : Hp) (C : Addr) (cl : List (Str × Addr)) (fp : List Addr), Pee (X.blk s H scope (compEnvC scope cl C X.env) fp) ea W0 ke mk
  vl : ∀ (s : Shared) (H : Hp) (C : Addr) (cl : List (Str × Addr)) (fp : List Addr), Pee (X.blk s H scope (compEnvC scope cl C X.env) fp) ea W0 ve mv
theorem pee_dc3 {tg1 i1 tg2 i2 : Expr} {f1 f2 : List Expr} {v0 v1 v2 l1 l2 : List Nat} {mi1 mi2 : Mo Wk} {t1 t2 : W → Mo Unit} {mt1 mt2 : Mo Bool} (hu : X.A.units < cLine) (hN : X.N.Nodup) (hi : Pei X ea Wx tg iter mi) (b : BlkD3 X ea tg ke ve ifs tg1 i1 f1 tg2 i2 f2 scope own v0 v1 v2 t l mt mi1 t1 l1 mt1 mi2 t2 l2 mt2 mk mv) (hc : X.calm = true := by rfl) (hs : ∀ x, foldedSetIterable iter X.env x = pure x := by intro _; rfl)
    (hs1 : ∀ env x, foldedSetIterable i1 env x = pure x := by intro _ _; rfl) (hs2 : ∀ env x, foldedSetIterable i2 env x = pure x := by intro _ _; rfl) :
    Pee X ea Wx (.DictComp ke ve [⟨tg, iter, ifs, 0⟩, ⟨tg1, i1, f1, 0⟩, ⟨tg2, i2, f2, 0⟩] scope pos) (mDcF (own.map (·.2)) v0 mi t mt (clM v1 mi1 t1 mt1 (clM v2 mi2 t2 mt2 (putD mk mv)))) := by
  obtain ⟨wi, p, r⟩ := hi.ex
  obtain ⟨h1, h2, h3, h4⟩ := b.hv
  refine ⟨_, pe_dcF (g := gOf X.K X.mg ea t l) (tt := ttOf X.K X.mg ea W0 mt) (inner := fun D en => clauseSem (.DictComp ke ve [⟨tg, iter, ifs, 0⟩, ⟨tg1, i1, f1, 0⟩, ⟨tg2, i2, f2, 0⟩] scope pos) 1 i1 (.ref D) en) (tb := fun D => tClause (iOf X.K X.mg ea W0 mi1) (gOf X.K X.mg ea t1 l1) (ttOf X.K X.mg ea W0 mt1) v1 (tClause (iOf X.K X.mg ea W0 mi2) (gOf X.K X.mg ea t2 l2) (ttOf X.K X.mg ea W0 mt2) v2 (tPut (tOf X.K X.mg ea W0 mk) (tOf X.K X.mg ea W0 mv) D))) (L := v1 ++ (v2 ++ [])) (vs := v0) hc hN p b.ok (fun D en v => turn_30) (fun s H C cl fp => (b.tg s H C cl fp).can) (fun s H C cl fp => (b.ts s H C cl fp).can)
    (fun s H C cl fp D => pb_clause (X := X.blk s H scope (compEnvC scope cl C X.env) fp) (fun _ _ z => z) hc (fun v => turn_31) (fun v => start_31) (fun y => hs1 _ y) (b.it1 s H C cl fp).can (b.tg1 s H C cl fp).can (b.ts1 s H C cl fp).can
      (pb_clause (X := X.blk s H scope (compEnvC scope cl C X.env) fp) (fun _ _ z => z) hc (fun v => turn_32) (fun v => start_32) (fun y => hs2 _ y) (b.it2 s H C cl fp).can (b.tg2 s H C cl fp).can (b.ts2 s H C cl fp).can
        (pb_put (X := X.blk s H scope (compEnvC scope cl C X.env) fp) (fun _ _ z => z) hu (b.ky s H C cl fp).can (b.vl s H C cl fp).can) (fun i z => by simp at z)) h4) h3 h2 hs, ?_⟩
  exact ref_dcF r (ref_gOf b.ne) b.sub h1 (ref_ttOf _) (ref_clause (ref_iOf _) (ref_gOf b.ne1) b.sub1 (ref_ttOf _) (ref_clause (ref_iOf _) (ref_gOf b.ne2) b.sub2 (ref_ttOf _) (ref_put (ref_tOf _) (ref_tOf _))))
end
end Z
set_option linter.all false
set_option Elab.async false
set_option maxRecDepth 100000
set_option linter.all false
set_option Elab.async false
set_option maxRecDepth 100000
namespace Z
open PySem PySem.Spec PyProof.Rows
open L2 hiding XE Takes CX takes_of passes_call passAt MkP PMk ps_raise mk_of ps_try_as ps_try_many pmk_own Takes.imp
open L2N
def srcD (d : Addr) (ob : Obj) (av : List (List Key × V)) : Src where
  src := d
  len := av.length
  st := fun it i h => ∃ es ep, ob.data = .dict es ep ∧ es.size = av.length ∧ h.IsKeyIter it d i es.size ep
  fin := fun _ => none
  yl := fun i v H => ∃ k u q, av[i]? = some (k, u) ∧ v = .ref q ∧ H q = some (.tup (k.map kV))
  ok := fun H => H d = some (.frz ob (.dT av))
def mkD (u : V) (S : Src) : Prop := ∃ d ob av, u = .ref d ∧ S = srcD d ob av
theorem srcD_ok {P : Program} {w : World} {H : Hp} {h : Heap} {d it : Addr} {ob : Obj} {av : List (List Key × V)} {i : Nat} (e : (srcD d ob av).st it i h) : ObjOk P w H h it ((srcD d ob av).at it i) := by
  refine ⟨e, ?_, ?_⟩
  · obtain ⟨_, _, _, _, o, z, _⟩ := e
    exact ⟨o, z⟩
  · rintro h1 h2 ⟨es, ep, e1, e2, z⟩ k
    exact ⟨es, ep, e1, e2, z.at k⟩
section
variable {X : Cx} {pins : List (Addr × Obj)} {σ : L2.St} {H : Hp} {s : Shared} {it d : Addr} {ob : Obj} {av : List (List Key × V)} {A : Around} {E : Value → Shared → Prop}
theorem paired_at {α β : Type} {F : α → β → Prop} {l : List α} {m : List β} (p : Paired F l m) : ∀ {i : Nat} {a : α} {b : β}, l[i]? = some a → m[i]? = some b → F a b := by
  induction p with
  | nil => intro i a b e; simp at e
  | cons r t ih =>
    intro i a b e e2
    cases i with
    | zero =>
      cases e
      cases e2
      exact r
    | succ i => exact ih (by simpa using e) (by simpa using e2)
theorem dict_at (I : Inv X pins σ H s) (h : H d = some (.frz ob (.dT av))) : (d == sysModules) = false ∧ s.heap.get? d = some ob ∧ ob.ExactDict ∧ ∃ es ep, ob.data = .dict es ep ∧ es.size = av.length ∧
    ∀ (i : Nat) (k : List Key) (u : V), av[i]? = some (k, u) → ∃ (en : DictEntry) (q : Addr), es[i]? = some en ∧ en.key = .ref q ∧ H q = some (.tup (k.map kV)) := by
  obtain ⟨g, _, no, xs, pr, o, es, ep, g2, ex, data, ent, _⟩ := (show ObjOk X.prog X.w H s.heap d (.frz ob (.dT av)) from I.hok d _ h)
  rw [g] at g2
  cases g2
  have size := size_of_entries ent
  refine ⟨no, g, ex, es, ep, data, by rw [size]; exact (Paired.length pr).symm, fun i k u e => ?_⟩
  have li : i < xs.length := by rw [← Paired.length pr]; exact get_lt e
  have p := paired_at pr e (List.getElem?_eq_getElem li)
  exact ⟨entryOfKey _ xs[i], xs[i].2.1, by rw [entry_at ent, List.getElem?_eq_getElem li]; rfl, rfl, p.2.1⟩
theorem stepsD (hh : A.handled = none) (hx : X.ex = []) (h0 : ∀ a, X.s_0.heap.get? a = none → X.H_0 a = none) (new : X.s_0.heap.get? it = none) : Steps X A it (srcD d ob av) where
  ty := fun I e => let ⟨_, _, _, _, z⟩ := (I.hok it _ e).1; ⟨"dict_keyiterator", _, z.typeIs, PySem.F.slot_dict_keyiterator_next⟩
  more := by
    intro pins σ H s i Q E I e ok lt k
    obtain ⟨_, g, _, es, ep, data, size, ent⟩ := dict_at I (show H d = _ from ok)
    obtain ⟨es', ep', data', size', z⟩ := (I.hok it _ e).1
    rw [data] at data'
    cases data'
    obtain ⟨en, q, e1, e2, e3⟩ := ent i av[i].1 av[i].2 (List.getElem?_eq_getElem lt)
    refine next_key_item z g data rfl e1 fun h' z' sb => ?_
    rw [e2]
    exact k (.ref q) _ _ ⟨_, _, q, List.getElem?_eq_getElem lt, rfl, e3⟩ rfl (I.write (e := it) (t' := s.toks) (by rw [e]; exact True.intro) (.inl rfl) (fun b u nb hb => (sb.2 b nb).trans hb) (let ⟨o, ho, _⟩ := z'; ⟨o, ho⟩) (srcD_ok ⟨es, ep, data, size, z'⟩))
  last := by
    intro pins σ H s Q E I e ok k
    obtain ⟨_, g, _, es, ep, data, size, ent⟩ := dict_at I (show H d = _ from ok)
    obtain ⟨es', ep', data', size', z⟩ := (I.hok it _ e).1
    rw [data] at data'
    cases data'
    refine next_key_end hh z g data rfl (Nat.le_of_eq size) fun h' xb => ?_
    obtain ⟨G, sub, gone, J⟩ := I.untrack e (fr0_none (h0 it new)) hx
    refine k _ ?_
    have K := J.kept (h' := h') (t' := s.toks) fun b o hb => xb b o (fun z => by rw [z, gone] at hb; cases hb) (sub b o hb)
    exact K
theorem mildD : Mild (srcD d ob av) where
  ok := fun {H H'} h e => by
    show H' d = _
    rw [show H' d = H d from e]
    exact h
  yl := fun {H H' i v} h k => let ⟨a, b, q, h1, h2, h3⟩ := h; ⟨a, b, q, h1, h2, k _ _ h3⟩
theorem goodD (hh : X.A.handled = none) (hx : X.ex = []) (h0 : ∀ a, X.s_0.heap.get? a = none → X.H_0 a = none) : Good X X.A.in1.in1 mkD := by
  rintro _ _ ⟨d, ob, av, rfl, rfl⟩
  refine ⟨mildD, fun {pins σ H s} I ok => ⟨⟨ob, (dict_at I ok).2.1⟩, fun it z => stepsD hh hx h0 ?_⟩⟩
  cases e : X.s_0.heap.get? it with
  | none => rfl
  | some o =>
    obtain ⟨o', e'⟩ := I.base.there it o e (by rw [hx]; exact fun z => nomatch z)
    rw [z] at e'
    cases e'
theorem iter_of {P : Program} {w : World} {v : Value} {Q : Value → Shared → Prop} (h : ∀ {A : Around} {Q' : Value → Shared → Prop} {E : Value → Shared → Prop}, (∀ r s', Q r s' → Q' r s') → wpAny (model P w) A (pyIter v) Q' E s) : wpAny (model P w) A (call (.builtin "iter") [v]) Q E s := by
  apply Calls.call_function_entry (by decide +kernel) (by decide +kernel) PySem.W.kdk_entry_iter (PySem.W.kdk_args_iter _)
  have one : (Builtin.«iter» ⟨[v], []⟩ : Sem PySem.Fin) = (do PySem.ret (← pyIter v)) := by first | rfl | kernel_rfl
  rw [one]
  exact wpAny_bind (h fun r s' q => wpAny_pure ⟨_, rfl, q⟩)
theorem call_iterD : CallR X (.builtin "iter") fun xs H Q => ∃ u Z, xs = [u] ∧ mkD u Z ∧ Z.ok H ∧ ∀ it, H it = none → Q (.ref it) (upd H it (Z.at it 0)) := by
  rintro pins s σ H _ _ Q I r ⟨_, _, rfl, ⟨d, ob, av, rfl, rfl⟩, ok, q⟩
  cases Vals.ref1 r
  obtain ⟨no, g, ex, es, ep, data, size, _⟩ := dict_at I ok
  refine iter_of fun up => wpAny_pyIter_dict_raw no ⟨ob, g, ex, data⟩ (up _ _ ?_)
  have here := Heap.get?_push_size s.heap (o := { cls := .type "dict_keyiterator", data := .fields #[.ref d, .int 0 0, .int es.size 0, .int ep 0] }) rfl
  exact ⟨.ref _, _, I.laid (t' := s.toks) (fun _ _ e => Heap.get?_push_of_some _ e) (Nat.le_refl _) (srcD_ok ⟨es, ep, data, size, _, here, rfl, rfl⟩), rfl, q _ (I.hok.fresh (Nat.le_refl _))⟩
end
def rdD : W → Option (List W)
  | .dF kvs => if kvs.length ≤ sz then some (kvs.map fun p => keyW p.1) else none
  | _ => none
theorem rdD_ok {K : PySem.W.Frag} {mg : Str → Option Value} : RdOk K mg mkD rdD := by
  intro io M H w v zs R e
  unfold rdD at e
  split at e
  · rename_i kvs
    split at e
    · rename_i few
      cases e
      obtain ⟨d, ob, av, rfl, hd, hn, rr⟩ := (show Rn K mg io M H (.dF kvs) v from .inl R).dF
      have hl : kvs.length = av.length := rr.length
      refine ⟨srcD d ob av, ⟨d, ob, av, rfl, rfl⟩, hd, by simp [srcD, hl], by simpa using few, fun {io' M' H'} p nt => ⟨p.keep _ _ hd hn, fun ys len al => ?_⟩⟩
      refine ⟨by rw [List.length_map, hl]; exact len.symm, fun i w v h1 h2 => ?_⟩
      obtain ⟨k, u, q, h3, rfl, h4⟩ := al i v h2
      have hk : (kvs.map (·.1))[i]? = some k := by rw [rr.1, List.getElem?_map, h3]; rfl
      rw [List.getElem?_map] at h1 hk
      cases e : kvs[i]? with
      | none => rw [e] at h1; cases h1
      | some y =>
        rw [e] at h1 hk
        cases h1
        cases hk
        exact rw_keyW h4 fun z => by
          obtain ⟨o, ho, hno⟩ := nt q z
          exact Nt.of ho hno _ h4
    · cases e
  · cases e
theorem objOk_alive {P : Program} {w : World} {H : Hp} {h : Heap} {a : Addr} {o : HO} (x : ObjOk P w H h a o) : ∃ u, h.get? a = some u := by
  cases o with
  | lst xs => exact let ⟨_, _, _, _, e⟩ := x; ⟨_, e⟩
  | tup xs => exact let ⟨_, _, _, o, e, _⟩ := x; ⟨o, e⟩
  | dK kvs => exact let ⟨_, _, _, _, o, _, _, e, _⟩ := x; ⟨o, e⟩
  | dT kvs => exact let ⟨_, _, _, _, o, _, _, e, _⟩ := x; ⟨o, e⟩
  | set S n => exact let ⟨o, _, _, _, e, _⟩ := x; ⟨o, e⟩
  | ins C dx fs => exact let ⟨_, _, _, e, _⟩ := x; ⟨_, e⟩
  | own y => exact x
  | xd fs => exact let ⟨_, ⟨o, _, _, e, _⟩, _⟩ := x; ⟨o, e⟩
  | rng lo hi => exact let ⟨_, _, _, e⟩ := x; ⟨_, e⟩
  | frz ob u => exact ⟨_, x.1⟩
  | tbl ps => exact ⟨_, x⟩
  | met f y => exact ⟨_, x⟩
  | ext φ => exact x.2.1
theorem defH {K : PySem.W.Frag} {mg : Str → Option Value} {P : Program} {w : World} {base : Heap} {x qual : Str} {st : Stmt} {f : Addr} {fd : FuncData} {N ps : List Str} {k n : Nat} {body : Mo Fl} (F : Fun K x qual st f fd) (S : FnScope N ps (defScope st)) (hn : N.length = n)
    (hb : ∀ (cdv : Value) (A : Around) (outer : List Env) (s : Shared) (H : Hp) (E : XK), (∀ a, s.heap.get? a = none → H a = none) → Room k (A.deeper (envOfC qual (defScope st) s.heap.objs.size f cdv)) →
      Pess (cxOf (L2N.CX P w) P w K mg base N qual (defScope st) f cdv A outer s H E) ea0 (fun cls d _ H => E cls d H) (defBody st) body) : FnM P w K mg base (k + 1) f fd ps (fnM n body) := by
  refine ⟨fun vs H Q E h => h.1, ?_⟩
  intro A outer s H args us vs Q E room e0 bt rv sp
  obtain ⟨_, _, _, _, _, _, cdv, _, _, rfl, lk, hcd⟩ := F.ex
  have born : ∀ b o, base.get? b = some o → s.heap.get? b = some o := fun b o e => (e0.bs b o e).1
  have kin := e0.mod.kin.keeps born
  have dead : ∀ a, s.heap.get? a = none → H a = none := fun a z => by
    cases e : H a with
    | none => rfl
    | some o =>
      obtain ⟨u, hu⟩ := objOk_alive (e0.hok a o e)
      rw [z] at hu
      cases hu
  refine codeAny_call_function room.depth (kin _ _ lk) rfl S.co S.gen rfl (PySem.W.codeRec_of kin hcd) (bt _ _ _ _ (wpAny_newFunctionEnv_cells S.kind (par_lives S) ?_))
  rintro _ rfl s1 x
  obtain ⟨t, p, rf⟩ := (hb cdv A outer s H E dead (room.deeper _)).ex
  have few : ps.length ≤ n := by rw [← hn, ← S.pre]; exact List.length_take_le' _ _
  refine ⟨(e0.mod.nolimit.keeps born).keeps x.toInCall.keep, codeAny_func (wpAny_mono (p.run [] s1 _ H _ (inv_start S room.hd e0 sp.1 rv x) (spM_body hn few rf sp)) (fun fl s' h => ?_) fun _ _ h => h)⟩
  have out := body_end rfl rfl h
  cases fl <;> exact out
end Z
set_option linter.all false
set_option Elab.async false
set_option maxRecDepth 100000
namespace Z
open PySem PySem.Spec PyProof.Rows
open L2 hiding XE Takes CX takes_of passes_call passAt MkP PMk ps_raise mk_of ps_try_as ps_try_many pmk_own Takes.imp
open L2N
abbrev FunE (K : PySem.W.Frag) (x qual : Str) (st : Stmt) (f : Addr) (fd : FuncData) (E : Addr) : Prop := L2.FunD K x qual (defArgs st) (defBody st) (defScope st) [.ref E] [] f fd
section
variable {P : Program} {w : World} {K : PySem.W.Frag} {mg : Str → Option Value} {base : Heap} {x qual : Str} {st : Stmt} {f E : Addr} {fd : FuncData} {N ps : List Str} {k n : Nat} {body : Mo Fl}
theorem funE_mk {oc kV doc pm cdv ct tc : Value} {od an td : Option Addr} {osl ts : Array (Option Value)} {T : Addr} {tn : Nat} (l : K.lookup f = some ⟨oc, od, .func (PySem.W.fnOf x qual (defArgs st) (defBody st) (defScope st) (.ref T) kV doc pm an cdv ct), osl⟩) (c : PySem.W.codeIn K cdv qual = true) (k : PySem.W.keepIn K (.ref f) = true)
    (t : K.lookup T = some ⟨tc, td, .seq #[.ref E] tn, ts⟩) : FunE K x qual st f (PySem.W.fnOf x qual (defArgs st) (defBody st) (defScope st) (.ref T) kV doc pm an cdv ct) E :=
  ⟨⟨oc, od, .ref T, kV, doc, pm, an, cdv, ct, osl, rfl, l, c, .inr ⟨by simp, T, _, [.ref E], tn, rfl, t, rfl, .cons rfl .nil⟩, .inl rfl⟩, k⟩
abbrev BindE (x qual : Str) (st : Stmt) (ps : List Str) (n j : Nat) : Prop := ∀ (T : Addr) (kV doc pm : Value) (an : Option Addr) (cdv ct : Value) (us its : List Value), us.length = n → its.length = 1 →
  ∃ k, bindArgs (PySem.W.fnOf x qual (defArgs st) (defBody st) (defScope st) (.ref T) kV doc pm an cdv ct) ⟨us, []⟩ = seqItems? (.ref T) >>= k ∧ k (some its.toArray) = pure (ps.zip (us ++ its.drop j))
theorem FunE.all (F : FunE K x qual st f fd E) (h : BindE x qual st ps ps.length 1) : Binds K fd ps [] := by
  obtain ⟨ds, r, b⟩ := L2.FunD.binds1 F ps.length 1 (by simp) (by simp) h
  cases r
  exact b
theorem FunE.less (F : FunE K x qual st f fd E) (n : Nat) (hn : n + 1 = ps.length) (h : BindE x qual st ps n 0) : Binds K fd ps [.ref E] := by
  obtain ⟨ds, r, b⟩ := L2.FunD.binds1 F n 0 (by simp) (by simpa using hn) h
  obtain ⟨u, rfl, e⟩ := Vals.one r
  cases e
  exact b
theorem defD2 (F : FunE K x qual st f fd E) (S : FnScope N ps (defScope st)) (hn : N.length = n)
    (hb : ∀ (cdv : Value) (A : Around) (outer : List Env) (s : Shared) (H : Hp) (E : XK), Room k (A.deeper (envOfC qual (defScope st) s.heap.objs.size f cdv)) → (A.deeper (envOfC qual (defScope st) s.heap.objs.size f cdv)).units + 150 < cLine →
      Takes (cxOf (L2N.CX P w) P w K mg base N qual (defScope st) f cdv A outer s H E) (fun cls d _ H => E cls d H) →
      PassesOwn (model P w) (A.deeper (envOfC qual (defScope st) s.heap.objs.size f cdv)) (envOfC qual (defScope st) s.heap.objs.size f cdv) (cxOf (L2N.CX P w) P w K mg base N qual (defScope st) f cdv A outer s H E).xe →
      Pess (cxOf (L2N.CX P w) P w K mg base N qual (defScope st) f cdv A outer s H E) ea0 (fun cls d _ H => E cls d H) (defBody st) body) : FnM P w K mg base (k + 1) f fd ps (fnM n body) := by
  obtain ⟨_, _, _, _, _, _, _, cdv, _, _, rfl, lk, hcd, _, _⟩ := F.ex
  refine ⟨fn_of lk hcd S (fun vs H Q E h => h.1) fun A outer s H vs Q E hr sp => ?_⟩
  obtain ⟨t, p, rf⟩ := (hb cdv A outer s H E hr (by have := hr.un; omega) (takes_of rfl rfl rfl rfl) (passes_of rfl)).ex
  exact ⟨t, p, spM_body hn (by rw [← hn, ← S.pre]; exact List.length_take_le' _ _) rf sp⟩
theorem defH2 (F : Fun K x qual st f fd) (S : FnScope N ps (defScope st)) (hn : N.length = n)
    (hb : ∀ (cdv : Value) (A : Around) (outer : List Env) (s : Shared) (H : Hp) (E : XK), (∀ a, s.heap.get? a = none → H a = none) → Room k (A.deeper (envOfC qual (defScope st) s.heap.objs.size f cdv)) → (A.deeper (envOfC qual (defScope st) s.heap.objs.size f cdv)).units + 150 < cLine →
      Takes (cxOf (L2N.CX P w) P w K mg base N qual (defScope st) f cdv A outer s H E) (fun cls d _ H => E cls d H) →
      PassesOwn (model P w) (A.deeper (envOfC qual (defScope st) s.heap.objs.size f cdv)) (envOfC qual (defScope st) s.heap.objs.size f cdv) (cxOf (L2N.CX P w) P w K mg base N qual (defScope st) f cdv A outer s H E).xe →
      Pess (cxOf (L2N.CX P w) P w K mg base N qual (defScope st) f cdv A outer s H E) ea0 (fun cls d _ H => E cls d H) (defBody st) body) : FnM P w K mg base (k + 1) f fd ps (fnM n body) :=
  defH F S hn fun cdv A outer s H E hk hr => hb cdv A outer s H E hk hr (by have := hr.un; omega) (takes_of rfl rfl rfl rfl) (passes_of rfl)
end
theorem defItD {P : Program} {w : World} {K : PySem.W.Frag} {mg : Str → Option Value} {base : Heap} {x qual fl self : Str} {st : Stmt} {f C : Addr} {fd : FuncData} {p1 p2 p3 p4 p5 : Pos} (F : Fun K x qual st f fd) (S : FnScope [self] [self] (defScope st))
    (hb : defBody st = [.Return (some (.Call (.Name "iter" p1) [.Attribute (.Name self p2) fl p3] [] p4)) p5]) (hC : Cls K C) (hno : NoAttr K C fl) (hm : mg "iter" = none)
    (hloc : (defScope st).names.lookup self = some .local) (hgl : ∀ (n : Addr) (cd : Value), (envOfC qual (defScope st) n f cd).kindOf "iter" = some .globalImplicit)
    (hat : ∀ env, attributeBase (.Name self p2) fl env (eval (.Name self p2) env) = eval (.Name self p2) env) (hst : ∀ env, starEach [.Attribute (.Name self p2) fl p3] env = (false, eval (.Attribute (.Name self p2) fl p3) env) :: starEach [] env)
    (hd : (self == ("__debug__" : Str)) = false := by decide) (hcd : (self == ("__classdict__" : Str)) = false := by decide) : FnOk P w K mg base (L2N.CX P w) 1 f fd [self] (spIt C fl mkD) :=
  defItS F S hb hC hno hm hloc hgl hat hst (fun X e => call_iterD) hd hcd
def mListD (nm fl : Str) (m : Fn) (ms : Mo (List RV)) : Mo RV := mListS nm fl rdD m ms
section
variable {X : Cx} {ea : EA} {Wx : WX} {m : Fn} {k n : Nat} {f C fi flA : Addr} {fdI fdL : FuncData} {psI psL : List Str} {nm fl : Str} {e : Expr} {ms : Mo (List RV)} {pos p : Pos}
theorem pee_listD (hk : ∀ a, X.s_0.heap.get? a = none → X.H_0 a = none) (hC : X.mg nm = some (.ref C)) (hc : IterC X.K C fi flA) (FI : FnOk X.prog X.w X.K X.mg X.base (L2N.CX X.prog X.w) n fi fdI psI (spIt C fl mkD)) (bI : Binds X.K fdI psI [])
    (FL : FnM X.prog X.w X.K X.mg X.base n flA fdL psL m) (hp : psL.length = 1) (bL : Binds X.K fdL psL []) (hr : Room (n + 3) X.A) (hm : X.mg "list" = none) (ha : Pea X ea Wx [e] ms) (hx : X.ex = [] := by rfl) (hg : Gl X "list" := by rfl) (hv : bootBuiltins "list" = some (.type "list") := by decide +kernel)
    (st : starEach [e] X.env = (false, eval e X.env) :: starEach [] X.env := by rfl) (npl : (backTo pos (starEach [] X.env)).any (·.1) = false := by rfl) : Pee X ea Wx (.Call (.Name "list" p) [e] [] pos) (mListD nm fl m ms) :=
  pee_listS hC rdD_ok (goodD hr.hd hx hk) ⟨hc, FI, bI, FL, hp, bL⟩ hr hm ha hg hv st npl
end
theorem dfl_empty {K : PySem.W.Frag} {mg : Str → Option Value} {E : Addr} {td : Option Addr} {n : Nat} {ts : Array (Option Value)} (e : K.lookup E = some ⟨.type "tuple", td, .seq #[] n, ts⟩) : Dfl K mg [.tup []] [.ref E] := fun io M H => by
  refine Rws.one (.tup (vs := []) (.inr ⟨⟨_, #[], n, e, rfl, rfl, Nat.zero_le _, .nil⟩, rfl⟩) rfl fun i w v h => by simp at h)
section
variable {X : Cx} {ea : EA} {Wx : WX} {m : Fn} {k n : Nat} {f C : Addr} {fd : FuncData} {ps : List Str} {x : Str} {p pos : Pos} {ds : List Value} {dw : List W} {dvs : List V}
theorem pee_make0N (hp : ps.length = n) (hC : X.mg x = some (.ref C)) (M : Mk X.K C f) (F : FnM X.prog X.w X.K X.mg X.base k f fd ps m) (hr : Room (k + 1) X.A) (hb : Binds X.K fd ps ds) (hd : Vals dvs ds) (hw : Dfl X.K X.mg dw dvs) (tk : Takes X Wx) (hg : Gl X x := by rfl)
    (hdb : (x == ("__debug__" : Str)) = false := by decide) : Pee X ea Wx (.Call (.Name x p) [] [] pos) (mMake x n m dw mNil) := by
  subst hp
  exact pee_make0 hC M F hr hb hd hw tk hg hdb
end
end Z
set_option linter.all false
set_option Elab.async false
set_option maxRecDepth 100000
namespace Z
open PySem PySem.Spec PyProof.Rows
open L2 hiding XE Takes CX takes_of passes_call passAt MkP PMk ps_raise mk_of ps_try_as ps_try_many pmk_own Takes.imp
open L2N
section
variable {r : List SV} {G : List Cell} {s : S} {m mk mv : Mo RV} {ms : Mo (List RV)} {mi : Mo Wk} {t : W → Mo Unit} {tt : Mo Bool} {body : MB} {ow vs : List Nat} {acc : KVs} {k : Wk} {w : W} {kvs : KVs}
@[simp] theorem mDcF_e : mDcF ow vs mi t tt body ⟨r, G⟩ = bnd mi (fun k s => match clL vs t tt body k k.ws [] (wipeS ow s) with
  | some (kvs, s') => some (.ok (.val (.dF kvs)), wipeS ow s')
  | none => none) ⟨r, G⟩ := rfl
@[simp] theorem clM_e : clM vs mi t tt body acc ⟨r, G⟩ = match mi ⟨r, G⟩ with
  | some (.ok k, s1) => clL vs t tt body k k.ws acc (wipeS vs s1)
  | _ => none := rfl
@[simp] theorem putD_e : putD mk mv acc ⟨r, G⟩ = match (bnd mk fun x => freeze (settle x)) ⟨r, G⟩ with
  | some (.ok kw, s1) => match (bnd mv fun x => freeze (settle x)) s1 with
    | some (.ok vw, s2) => match tkOf kw with
      | some ks => if acc.length < sz then some (putW acc ks vw, s2) else none
      | none => none
    | _ => none
  | _ => none := rfl
@[simp] theorem deref_dF : derefW s (.dF kvs) = some (.dF kvs) := rfl
@[simp] theorem look_dF : look (.val (.dF kvs)) ⟨r, G⟩ = some (.ok (.dF kvs), ⟨r, G⟩) := rfl
@[simp] theorem mListD_e {nm fl : Str} {f : Fn} : mListD nm fl f ms ⟨r, G⟩ = bnd ms (fun xs => bnd (freezeAll xs) fun ws => listO nm fl rdD f ws) ⟨r, G⟩ := rfl
@[simp] theorem fLenD_e : fLenD [.dF kvs] = some (.imm (.int (kvs.length : Nat))) := rfl
@[simp] theorem rdD_e : rdD (.dF kvs) = if kvs.length ≤ sz then some (kvs.map fun p => keyW p.1) else none := rfl
theorem putW_len {ks : List Key} : (putW acc ks w).length ≤ acc.length + 1 := by
  unfold putW
  split <;> simp
variable {γ : Type} {e : γ → W}
theorem cl_fold (hk : k.ok s) (p : γ → Bool) (g : γ → KVs → KVs) (c : Nat) (hg : ∀ x acc, (g x acc).length ≤ acc.length + c) : ∀ (xs : List γ) (acc : KVs),
    (∀ x ∈ xs, ∀ acc : KVs, acc.length + c ≤ sz → ∃ s1, (bnd (t (e x)) fun _ => tt) s = some (.ok (p x), s1) ∧ (p x = true → ∃ s2, body acc s1 = some (g x acc, s2) ∧ wipeS vs s2 = s) ∧ (p x = false → wipeS vs s1 = s)) →
    acc.length + c * xs.length ≤ sz → clL vs t tt body k (xs.map e) acc s = some ((xs.filter p).foldl (fun a x => g x a) acc, s)
  | [], acc, _, _ => by
    unfold clL
    exact if_pos hk
  | x :: xs, acc, h, z => by
    rw [List.length_cons, Nat.mul_succ] at z
    obtain ⟨s1, e1, yes, no⟩ := h x (List.mem_cons_self ..) acc (by omega)
    have rest := fun a => cl_fold hk p g c hg xs a fun y hy => h y (List.mem_cons_of_mem _ hy)
    rw [List.map_cons]
    unfold clL
    rw [if_pos hk, e1]
    cases b : p x with
    | true =>
      obtain ⟨s2, e2, e3⟩ := yes b
      simp only [e2, e3]
      rw [rest _ (by have := hg x acc; omega), List.filter_cons_of_pos b, List.foldl_cons]
    | false =>
      simp only [no b]
      rw [rest _ (by omega), List.filter_cons_of_neg (by simp [b])]
end
def kT (t : List Int) : List Key := t.map Sum.inl
def rowsD (ts : List (List Int)) : KVs := ts.map fun t => (kT t, .bl true)
theorem kT_inj {a b : List Int} : kT a = kT b ↔ a = b := by
  constructor
  · intro h
    unfold kT at h
    induction a generalizing b with
    | nil => cases b with
      | nil => rfl
      | cons y b => simp at h
    | cons x a ih => cases b with
      | nil => simp at h
      | cons y b =>
        rw [List.map_cons, List.map_cons, List.cons.injEq] at h
        rw [Sum.inl.inj h.1, ih h.2]
  · rintro rfl
    rfl
@[simp] theorem kW_kT (t : List Int) : (kT t).map kW = t.map W.int := by
  unfold kT
  rw [List.map_map]
  rfl
theorem keysOf_ints : ∀ t : List Int, keysOf (t.map W.int) = some (kT t)
  | [] => rfl
  | x :: t => by
    rw [List.map_cons]
    unfold keysOf
    rw [keysOf_ints t]
    rfl
theorem tkOf_ints {t : List Int} (h : t ≠ []) : tkOf (.tup (t.map W.int)) = some (kT t) := by
  cases t with
  | nil => exact absurd rfl h
  | cons x t =>
    rw [List.map_cons]
    unfold tkOf
    exact keysOf_ints (x :: t)
theorem valW_rows (ts : List (List Int)) (t : List Int) : (valW (rowsD ts) (kT t)).isSome = decide (t ∈ ts) := by
  unfold valW rowsD
  rw [Option.isSome_map, Bool.eq_iff_iff, List.find?_isSome]
  simp only [List.mem_map, decide_eq_true_eq]
  constructor
  · rintro ⟨_, ⟨a, m, rfl⟩, e⟩
    rw [← kT_inj.mp e]
    exact m
  · exact fun m => ⟨_, ⟨t, m, rfl⟩, rfl⟩
theorem fIn_rows (neg : Bool) (ts : List (List Int)) {t : List Int} (h : t ≠ []) : fIn neg (.tup (t.map W.int)) (.dF (rowsD ts)) = some (.imm (.bl (decide (t ∈ ts) != neg))) := by
  have : fIn neg (.tup (t.map W.int)) (.dF (rowsD ts)) = fInD neg (.tup (t.map W.int)) (.dF (rowsD ts)) := by
    cases neg <;> rfl
  rw [this]
  show ((tkOf (.tup (t.map W.int))).map fun k => valW (rowsD ts) k).map (fun r => OR.imm (.bl (r.isSome != neg))) = _
  rw [tkOf_ints h]
  simp [valW_rows]
def addT (ts : List (List Int)) (t : List Int) : List (List Int) := if t ∈ ts then ts else ts ++ [t]
theorem putW_rows (ts : List (List Int)) (t : List Int) : putW (rowsD ts) (kT t) (.bl true) = rowsD (addT ts t) := by
  unfold putW addT
  have any : ((rowsD ts).any fun kv => decide (kv.1 = kT t)) = decide (t ∈ ts) := by
    unfold rowsD
    rw [List.any_map, Bool.eq_iff_iff]
    simp [kT_inj]
  rw [any]
  by_cases h : t ∈ ts
  · simp only [h, decide_true, if_true]
    unfold rowsD
    rw [List.map_map]
    refine List.map_congr_left fun x _ => ?_
    simp only [Function.comp]
    split
    · rename_i q
      rw [q]
    · rfl
  · simp only [h, decide_false, if_false]
    unfold rowsD
    simp
theorem fold_rows : ∀ (xs ts : List (List Int)), xs.foldl (fun a t => putW a (kT t) (.bl true)) (rowsD ts) = rowsD (xs.foldl addT ts)
  | [], ts => rfl
  | x :: xs, ts => by
    rw [List.foldl_cons, putW_rows, fold_rows xs, List.foldl_cons]
theorem addT_mem {ts : List (List Int)} {t u : List Int} : u ∈ addT ts t ↔ u ∈ ts ∨ u = t := by
  unfold addT
  split
  · rename_i h
    exact ⟨.inl, fun z => z.elim id fun q => q ▸ h⟩
  · simp
theorem fold_mem : ∀ (xs ts : List (List Int)) (u : List Int), u ∈ xs.foldl addT ts ↔ u ∈ ts ∨ u ∈ xs
  | [], ts, u => by simp
  | x :: xs, ts, u => by
    rw [List.foldl_cons, fold_mem xs, addT_mem, List.mem_cons, or_assoc]
theorem fold_new : ∀ (xs ts : List (List Int)), xs.Nodup → (∀ x ∈ xs, x ∉ ts) → xs.foldl addT ts = ts ++ xs
  | [], ts, _, _ => by simp
  | x :: xs, ts, nd, h => by
    have nx := h x (List.mem_cons_self ..)
    rw [List.foldl_cons, show addT ts x = ts ++ [x] from if_neg nx, fold_new xs _ (List.nodup_cons.mp nd).2 fun y hy z => ?_, List.append_assoc]
    · rfl
    · rcases List.mem_append.mp z with z | z
      · exact h y (List.mem_cons_of_mem _ hy) z
      · rw [List.mem_singleton.mp z] at hy
        exact (List.nodup_cons.mp nd).1 hy
theorem rowsD_keys (ts : List (List Int)) : (rowsD ts).map (fun p => keyW p.1) = ts.map fun t => W.tup (t.map W.int) := by
  unfold rowsD keyW
  rw [List.map_map]
  simp [Function.comp_def]
@[simp] theorem rowsD_length (ts : List (List Int)) : (rowsD ts).length = ts.length := List.length_map ..
end Z
set_option linter.all false
set_option Elab.async false
set_option maxRecDepth 100000
set_option linter.all false
set_option Elab.async false
set_option maxRecDepth 100000
namespace Z
open PySem PySem.Spec PyProof.Rows
open L2 hiding XE Takes CX takes_of passes_call passAt MkP PMk ps_raise mk_of ps_try_as ps_try_many pmk_own Takes.imp
open L2N
section
variable {P : Program} {w : World} {H : Hp} {h : Heap} {it a b : Addr} {φ : Heap → Prop}
theorem below_tup {t : List V} (e : upd H it (.ext φ) b = some (.tup t)) : H b = some (.tup t) := by
  by_cases z : b = it
  · rw [z, upd_same] at e; cases e
  · rwa [upd_ne z] at e
theorem objOk_drop : ∀ {o : HO}, ObjOk P w (upd H it (.ext φ)) h a o → ObjOk P w H h a o
  | .lst _, x => x
  | .tup _, x => x
  | .dK _, x => x
  | .dT _, ⟨l, n, xs, pr, r⟩ => ⟨l, n, xs, L2.Paired.mapP pr fun _ _ k => ⟨k.1, below_tup k.2.1, k.2.2⟩, r⟩
  | .set _ _, x => x
  | .ins C dx fs, ⟨e, r⟩ => ⟨by
      by_cases z : dx = it
      · rw [z, upd_same] at e; cases e
      · rwa [upd_ne z] at e, r⟩
  | .own _, x => x
  | .xd _, x => x
  | .rng _ _, x => x
  | .frz _ _, ⟨e, x⟩ => ⟨e, objOk_drop x⟩
  | .tbl _, x => x
  | .met _ _, x => x
  | .ext _, x => x
theorem below_none (e : upd H it (.ext φ) b = none) : H b = none ∧ b ≠ it := by
  by_cases z : b = it
  · rw [z, upd_same] at e; cases e
  · rw [upd_ne z] at e; exact ⟨e, z⟩
theorem un_drop {fs ex : List Addr} {H0 : Hp} {h0 : Heap} (u : Un fs ex H0 (upd H it (.ext φ)) h0 h) : Un fs ex H0 H h0 h where
  keep := u.keep
  slot := u.slot
  free := fun b o e n x => (below_none (u.free b o e n x)).1
  there := u.there
  tups := fun b xs e => below_tup (u.tups b xs e)
  frzs := fun b o v e => by
    have k := u.frzs b o v e
    by_cases z : b = it
    · rw [z, upd_same] at k; cases k
    · rwa [upd_ne z] at k
  tbls := fun b ps e => by
    obtain ⟨more, k⟩ := u.tbls b ps e
    refine ⟨more, ?_⟩
    by_cases z : b = it
    · rw [z, upd_same] at k; cases k
    · rwa [upd_ne z] at k
end
section
variable {X : Cx} {pins : List (Addr × Obj)} {σ : L2.St} {H : Hp} {s : Shared} {it : Addr} {φ : Heap → Prop}
theorem inv_drop (I : Inv X pins σ (upd H it (.ext φ)) s) (n : H it = none) : Inv X pins σ H s where
  ok := I.ok
  os := I.os
  bare := I.bare
  base := un_drop I.base
  loc := I.loc
  cell := I.cell
  free := (below_none I.free).1
  freeC := fun x c e => (below_none (I.freeC x c e)).1
  pin := fun p m => let ⟨a, b, r⟩ := I.pin p m; ⟨a, (below_none b).1, r⟩
  hok := fun a o e => by
    have z : a ≠ it := fun z => by rw [z, n] at e; cases e
    exact objOk_drop (I.hok a o (by rw [upd_ne z]; exact e))
  len := I.len
end
theorem call_iterN {X : Cx} : CallR X (.builtin "iter") fun xs H Q => ∃ d ob av, xs = [.ref d] ∧ H d = some (.frz ob (.dT av)) ∧ ∀ it, H it = none → X.s_0.heap.objs.size ≤ it → Q (.ref it) (upd H it ((srcD d ob av).at it 0)) := by
  rintro pins s σ H _ _ Q I r ⟨d, ob, av, rfl, ok, q⟩
  cases Vals.ref1 r
  obtain ⟨no, g, ex, es, ep, data, size, _⟩ := dict_at I ok
  refine iter_of fun up => wpAny_pyIter_dict_raw no ⟨ob, g, ex, data⟩ (up _ _ ?_)
  let o : Obj := { cls := .type "dict_keyiterator", data := .fields #[.ref d, .int 0 0, .int es.size 0, .int ep 0] }
  have here : (s.heap.push o).get? s.heap.objs.size = some o := Heap.get?_push_size s.heap rfl
  exact ⟨.ref _, _, I.laid (t' := s.toks) (fun _ _ e => Heap.get?_push_of_some _ e) (Nat.le_refl _) (srcD_ok ⟨es, ep, data, size, _, here, rfl, rfl⟩), rfl, q _ (I.hok.fresh (Nat.le_refl _)) I.sz⟩
structure FnIt (P : Program) (w : World) (K : PySem.W.Frag) (mg : Str → Option Value) (base : Heap) (f : Addr) (fd : FuncData) (ps : List Str) (C : Addr) (fl : Str) : Prop where
  run : ∀ (A : Around) (outer : List Env) (s : Shared) (H : Hp) (args : Args) (us : List Value) (a : Addr) (Q : VK), Room 1 A → Env0 P w K mg base A outer s H → BindsTo s fd args (ps.zip us) → Vals [.ref a] us →
    (∃ dx fs d ob av, H a = some (.ins C dx fs) ∧ fs.lookup fl = some (.ref d) ∧ H d = some (.frz ob (.dT av)) ∧ ∀ it, H it = none → s.heap.objs.size ≤ it → Q (.ref it) (upd H it ((srcD d ob av).at it 0))) →
    codeAny (model P w) A (.call (.ref f) args) (CR (L2N.CX P w) outer P w H s Q E0) s
theorem defItN {P : Program} {w : World} {K : PySem.W.Frag} {mg : Str → Option Value} {base : Heap} {x qual fl self : Str} {st : Stmt} {f C : Addr} {fd : FuncData} {p1 p2 p3 p4 p5 : Pos} (F : Fun K x qual st f fd) (S : FnScope [self] [self] (defScope st))
    (hb : defBody st = [.Return (some (.Call (.Name "iter" p1) [.Attribute (.Name self p2) fl p3] [] p4)) p5]) (hC : Cls K C) (hno : NoAttr K C fl) (hm : mg "iter" = none)
    (hloc : (defScope st).names.lookup self = some .local) (hgl : ∀ (n : Addr) (cd : Value), (envOfC qual (defScope st) n f cd).kindOf "iter" = some .globalImplicit)
    (hat : ∀ env, attributeBase (.Name self p2) fl env (eval (.Name self p2) env) = eval (.Name self p2) env) (hst : ∀ env, starEach [.Attribute (.Name self p2) fl p3] env = (false, eval (.Attribute (.Name self p2) fl p3) env) :: starEach [] env)
    (hd : (self == ("__debug__" : Str)) = false := by decide) (hcd : (self == ("__classdict__" : Str)) = false := by decide) : FnIt P w K mg base f fd [self] C fl := by
  refine ⟨fun A outer s H args us a Q room e0 bt rv sp => ?_⟩
  obtain ⟨_, _, _, _, _, _, cdv, _, _, rfl, lk, hcode⟩ := F.ex
  have born : ∀ b o, base.get? b = some o → s.heap.get? b = some o := fun b o e => (e0.bs b o e).1
  have kin := e0.mod.kin.keeps born
  refine codeAny_call_function room.depth (kin _ _ lk) rfl S.co S.gen rfl (PySem.W.codeRec_of kin hcode) (bt _ _ _ _ (wpAny_newFunctionEnv_cells S.kind (par_lives S) ?_))
  rintro _ rfl s1 z
  let X := cxOf (L2N.CX P w) P w K mg base [self] qual (defScope st) f cdv A outer s H E0
  have me : PE X (.Name self p2) (tVar 0) := pe_var rfl (.inl hloc) hd hcd
  have call := pe_callB (X := X) (p := p1) (pos := p4) (x := "iter") call_iterN (hgl _ _) hm (by decide +kernel) (pa_cons (pe_fld (f := fl) (pos := p3) me (hat _)) pa_nil (hst _)) (by decide) (by decide) (hst _) rfl
  have body := pss_one (ps_ret (pos := p5) call)
  rw [← hb] at body
  obtain ⟨dx, fs, d, ob, av, ha, hl, hd', q⟩ := sp
  refine ⟨(e0.mod.nolimit.keeps born).keeps z.toInCall.keep, codeAny_func (wpAny_mono (body.run [] s1 _ H { nx := fun _ H' => Q .non H', rt := Q } (inv_start S room.hd e0 rfl rv z) ⟨.ref a, rfl, a, C, dx, fs, .ref d, rfl, ha, hC, hno, hl, d, ob, av, rfl, hd', fun it n old => q it n old⟩) (fun fl s' h => ?_) fun _ _ h => h)⟩
  have out := body_end rfl rfl h
  cases fl <;> exact out
def iOwnD (C : Addr) (fl : Str) (te : TE) : TI := fun σ H R => te σ H fun x H1 => ∃ a dx fs d ob av, x = .ref a ∧ H1 a = some (.ins C dx fs) ∧ fs.lookup fl = some (.ref d) ∧ H1 d = some (.frz ob (.dT av)) ∧ R (Itkt d ob av) H1
def fldD (nm fl : Str) : W → Option (List (List Key × W))
  | .obj nm' fs => if nm' = nm then (match fs.lookup fl with
    | some (.dF kvs) => some kvs
    | _ => none) else none
  | _ => none
def mIterO (nm fl : Str) (m : Mo RV) : Mo Wk := bnd m fun x => bnd (look (settle x)) fun w => match fldD nm fl w with
  | some kvs => ret ⟨kvs.map fun p => keyW p.1, none⟩
  | none => stk
section
variable {X : Cx} {ea : EA} {Wx : WX} {fi C : Addr} {fdI : FuncData} {psI : List Str} {nm fl : Str} {e tg : Expr} {te : TE} {me : Mo RV}
theorem call_got {pins : List (Addr × Obj)} {σ : L2.St} {H : Hp} {s : Shared} {Q : VK} {us : List Value} {A1 : Around} {f : Addr} (I : Inv X pins σ H s) (h : codeAny (model X.prog X.w) A1 (.call (.ref f) ⟨us, []⟩) (CR (L2N.CX X.prog X.w) X.stack X.prog X.w H s Q E0) s) :
    wpAny (model X.prog X.w) A1 (call (.ref f) us) (fun u s' => ∃ v H', Inv X pins σ H' s' ∧ RelV v u ∧ Q v H') (fun _ _ => False) s := by
  refine wpAny_call (codeAny_mono h ?_)
  rintro (er | (_ | _ | _ | u)) s' q
  · obtain ⟨_, _, _, _, _, _, _, _, _, _, _, _, z⟩ := q
    exact z
  · exact q.elim
  · exact q.elim
  · exact q.elim
  · obtain ⟨v, H', J, rv, z⟩ := I.after (Q := Q) q
    exact ⟨v, H', J, rv, z⟩
theorem pi_ownD (hit : PySem.W.findIn X.K (.ref C) "__iter__" = some (some (.ref fi))) (hf : PySem.W.isFn X.K (.ref fi) = true) (FI : FnIt X.prog X.w X.K X.mg X.base fi fdI psI C fl) (bI : Binds X.K fdI psI []) (hp : psI.length = 1) (hr : Room 1 X.A) (he : PE X e te) : PI X tg e (iOwnD C fl te) := by
  refine ⟨fun pins s σ H R I h => thn (he.run pins s σ H _ I h) fun u s1 ⟨x, H1, I1, rx, hq⟩ => ?_⟩
  obtain ⟨a, dx, fs, d, ob, av, rfl, ha, hfl, hd, r⟩ := hq
  obtain rfl : u = Value.ref a := rx
  have self : Vals [V.ref a] [Value.ref a] := .cons rfl .nil
  obtain ⟨_, _, J⟩ := inst_of I1 ha
  obtain ⟨_, fr⟩ := I1.fr
  have go := FI.run X.A X.stack s1 H1 ⟨[.ref a], []⟩ [.ref a] a (fun v H' => ∃ it, v = .ref it ∧ H1 it = none ∧ s1.heap.objs.size ≤ it ∧ H' = upd H1 it ((srcD d ob av).at it 0)) hr (Sub.env0 ⟨hr, rfl⟩ I1) (binds0 (n := 0) bI I1 (by rw [hp]; rfl)) self ⟨dx, fs, d, ob, av, ha, hfl, hd, fun it z y => ⟨it, rfl, z, y, rfl⟩⟩
  refine PySem.W.owit_iter fr I1.ok.mod.kin J hit hf (wpAny_mono (call_got I1 go) ?_ fun _ _ z => z.elim)
  rintro _ s2 ⟨_, _, I2, r2, it, rfl, hn, old, rfl⟩
  cases r2
  obtain ⟨es, ep, data, size, z⟩ := (I2.hok it _ upd_same).1
  have I3 : Inv X pins σ H1 s2 := inv_drop I2 hn
  unfold PySem.W.OwitIt
  refine wpAny_specialOf (name := Str.ofString "__next__") z.typeIs PySem.F.slot_dict_keyiterator_next.lookup ?_
  refine ⟨it, [it], _, Itkt d ob av, H1, rfl, I3, turn_keysT it data, ?_, fun b hb => ?_, r⟩
  · rw [← size]
    exact z
  · obtain rfl := List.mem_singleton.mp hb
    have old : FpOk X pins H1 b := I1.fpOk old hn
    exact ⟨hn, old.2.1, old.2.2.1, old.2.2.2.1, old.2.2.2.2.1, fun p hp => (below_none (I2.pin p hp).2.1).2⟩
theorem ref_iterO {K : PySem.W.Frag} {mg : Str → Option Value} (hC : mg nm = some (.ref C)) (h : RefE K mg ea Wx te me) : RefI K mg ea Wx (iOwnD C fl te) (mIterO nm fl me) := by
  intro σ H io Fr s S0 r0 s' e R hok hex
  refine one2 h S0 e hex fun x v s1 H1 io1 e2 px => ?_
  obtain ⟨S1, T1, R1⟩ := px.settled
  rcases bnd_some e2 with ⟨z, e3, rfl⟩ | ⟨w, s3, e3, e4⟩
  · obtain ⟨_, _, q, _⟩ := look_ok S1 R1 e3
    cases q
  · obtain ⟨rfl, w', q, r2⟩ := look_ok S1 R1 e3
    cases q
    cases hk : fldD nm fl w with
    | none => rw [hk] at e4; cases e4
    | some kvs =>
      rw [hk] at e4
      cases e4
      unfold fldD at hk
      split at hk
      · rename_i nm' fs
        split at hk
        · rename_i hnm
          subst hnm
          split at hk
          · rename_i kvs' hl
            cases hk
            obtain ⟨a, C', dx, us, rfl, hm, hH, rk⟩ := r2.obj
            rw [hC] at hm
            cases hm
            obtain ⟨v', h1, h2⟩ := rk.lookup (vs := us) hl
            obtain ⟨d, ob, av, rfl, hd, hn, rr⟩ := (show Rn K mg io1 _ H1 (.dF kvs) v' from .inl h2).dF
            exact ⟨a, dx, us, d, ob, av, rfl, hH, h1, hd, hok _ rfl _ _ _ ⟨S1, T1⟩ (itg_dF hd hn rr.1)⟩
          · cases hk
        · cases hk
      · cases hk
theorem pei_ownD (hC : X.mg nm = some (.ref C)) (hit : PySem.W.findIn X.K (.ref C) "__iter__" = some (some (.ref fi))) (hf : PySem.W.isFn X.K (.ref fi) = true) (FI : FnIt X.prog X.w X.K X.mg X.base fi fdI psI C fl) (bI : Binds X.K fdI psI []) (hp : psI.length = 1) (hr : Room 1 X.A) (he : Pee X ea Wx e me) : Pei X ea Wx tg e (mIterO nm fl me) :=
  let ⟨_, p, r⟩ := he.ex; ⟨_, pi_ownD hit hf FI bI hp hr p, ref_iterO hC r⟩
end
section
variable {r : List SV} {G : List Cell} {m : Mo RV} {nm fl : Str}
@[simp] theorem mIterO_e : mIterO nm fl m ⟨r, G⟩ = bnd m (fun x => bnd (look (settle x)) fun w => match fldD nm fl w with
  | some kvs => Z.ret ⟨kvs.map fun p => keyW p.1, none⟩
  | none => stk) ⟨r, G⟩ := rfl
end
end Z
set_option linter.all false
set_option Elab.async false
set_option maxRecDepth 100000
set_option linter.all false
set_option Elab.async false
set_option maxRecDepth 100000
set_option linter.all false
set_option Elab.async false
set_option maxRecDepth 100000
namespace Z
open PySem PySem.Spec PyProof.Rows
open L2 hiding XE Takes CX takes_of passes_call passAt MkP PMk ps_raise mk_of ps_try_as ps_try_many pmk_own Takes.imp
open L2N
section
variable {K : PySem.W.Frag} {mg : Str → Option Value} {ea : EA} {Wx : WX} {io : List Addr} {Fr : Addr → Prop} {s s' : S} {σ : L2.St} {H : Hp} {M : Addr → Prop} {nm : Str} {ws : List W} {v : V}
theorem Rn.slt (h : Rn K mg io M H (.slt nm ws) v) : ∃ (a C dx : Addr) (vs : List V), v = .ref a ∧ mg nm = some (.ref C) ∧ H a = some (SlX.SlO a C dx (vs.map some)) ∧ H dx = some (.xd []) ∧ Rws K mg io M H ws vs := by
  rcases h with h | ⟨c, o, a, e, rfl, ha, hc⟩
  · cases h with
    | slt m h n h2 n2 l q => exact ⟨_, _, _, _, rfl, m, h, h2, l, q⟩
  · cases c <;> cases e
end
section
variable {r : List SV} {G : List Cell} {ms : Mo (List RV)} {nm : Str} {ws : List W} {a b c d e : W} {tab : List (Str × Nat)}
@[simp] theorem look_slt : look (.val (.slt nm ws)) ⟨r, G⟩ = some (.ok (.slt nm ws), ⟨r, G⟩) := rfl
@[simp] theorem deref_slt {s : S} : derefW s (.slt nm ws) = some (.slt nm ws) := rfl
end
end Z
set_option linter.all false
set_option Elab.async false
set_option maxRecDepth 100000
set_option linter.all false
set_option Elab.async false
set_option maxRecDepth 100000
set_option linter.all false
set_option Elab.async false
set_option maxRecDepth 100000
namespace Z
open PySem PySem.Spec PyProof.Rows
open L2 hiding XE Takes CX takes_of passes_call passAt MkP PMk ps_raise mk_of ps_try_as ps_try_many pmk_own Takes.imp
open L2N
def Sk (i : Int) : Prop := i.natAbs.log2 < 1920
noncomputable instance (i : Int) : Decidable (Sk i) := Classical.propDecidable _
def Mk6 (i : Int) : Prop := 0 ≤ i ∧ i < 1000000
noncomputable instance (i : Int) : Decidable (Mk6 i) := Classical.propDecidable _
def Jk (n : Nat) : Prop := n ≤ 16777216
noncomputable instance (n : Nat) : Decidable (Jk n) := Classical.propDecidable _
end Z
set_option linter.all false
set_option Elab.async false
set_option maxRecDepth 100000
namespace Z
open PySem PySem.Spec PyProof.Rows
open L2 hiding XE Takes CX takes_of passes_call passAt MkP PMk ps_raise mk_of ps_try_as ps_try_many pmk_own Takes.imp
open L2N
section
variable {r : List SV} {G : List Cell} {m mo me : Mo RV} {ms : List (Mo RV)} {acc a x : Str} {b : Array UInt8} {i : Int} {nm : Str} {w : W} {ws : List W} {f : Str → W → Option OR} {mf : Fn}
@[simp] theorem freeze_slt : freeze (.val (.slt nm ws)) ⟨r, G⟩ = some (.ok (.slt nm ws), ⟨r, G⟩) := rfl
end
end Z
set_option linter.all false
set_option Elab.async false
set_option maxRecDepth 100000
namespace Z
open PySem PySem.Spec PyProof.Rows
open L2 hiding XE Takes CX takes_of passes_call passAt MkP PMk ps_raise mk_of ps_try_as ps_try_many pmk_own Takes.imp
open L2N
def cod (x : Str) : List Nat := x.cps.toList
def dgs (n : Nat) : List Nat := (Nat.toDigits 10 n).map Char.toNat
theorem dgs_le {k n : Nat} (hk : 1 ≤ k) (hn : n < 10 ^ k) : (dgs n).length ≤ k := by
  unfold dgs
  rw [List.length_map]
  exact digits10_le hk hn
def zT (k n : Nat) : Str := ⟨(List.replicate (k - (dgs n).length) 48 ++ dgs n).toArray⟩
theorem cod_z (k n : Nat) : cod (zT k n) = List.replicate (k - (dgs n).length) 48 ++ dgs n := rfl
theorem z_len {k n : Nat} (hk : 1 ≤ k) (hn : n < 10 ^ k) : (cod (zT k n)).length = k := by
  have := dgs_le hk hn
  rw [cod_z, List.length_append, List.length_replicate]
  omega
end Z
set_option linter.all false
set_option Elab.async false
set_option maxRecDepth 100000
set_option linter.all false
set_option Elab.async false
set_option maxRecDepth 100000
set_option linter.all false
set_option Elab.async false
set_option maxRecDepth 100000
set_option linter.all false
set_option Elab.async false
set_option maxRecDepth 100000
set_option linter.all false
set_option Elab.async false
set_option maxRecDepth 100000
set_option linter.all false
set_option Elab.async false
set_option maxRecDepth 100000
set_option linter.all false
set_option Elab.async false
set_option maxRecDepth 100000
set_option linter.all false
set_option Elab.async false
set_option maxRecDepth 100000
namespace Z
open PySem PySem.Spec PySem.Calls PyProof.Rows L2
def DiffH (ks : List (List Key)) : Prop := ∀ w : World, (ks.map fun k => reduceHash (Builtin.Tuple.tupleHashOf (k.map (keyH w)))).Nodup
noncomputable instance (ks : List (List Key)) : Decidable (DiffH ks) := Classical.propDecidable _
end Z
set_option linter.all false
set_option Elab.async false
set_option maxRecDepth 100000
namespace Z
open PySem PySem.Spec PyProof.Rows
open L2 hiding XE Takes CX takes_of passes_call passAt MkP PMk ps_raise mk_of ps_try_as ps_try_many pmk_own Takes.imp
open L2N
theorem hu2 {n : Nat} (h : n + 150 < cLine) : n + 2 < cLine := by omega
end Z
set_option linter.all false
set_option Elab.async false
set_option maxRecDepth 100000
set_option linter.all false
set_option Elab.async false
set_option maxRecDepth 100000
set_option linter.all false
set_option Elab.async false
set_option maxRecDepth 100000
set_option linter.all false
set_option Elab.async false
set_option maxRecDepth 100000
set_option linter.all false
set_option Elab.async false
set_option maxRecDepth 100000
set_option linter.all false
set_option Elab.async false
set_option maxRecDepth 100000
set_option linter.all false
set_option Elab.async false
set_option maxRecDepth 100000
set_option linter.all false
set_option Elab.async false
set_option maxRecDepth 100000
namespace Z
open PySem PySem.Spec PyProof.Rows
open L2 hiding XE Takes CX takes_of passes_call passAt MkP PMk ps_raise mk_of ps_try_as ps_try_many pmk_own Takes.imp
open L2N
section
variable {K : PySem.W.Frag} {mg : Str → Option Value} {ea : EA} {io : List Addr} {Fr : Addr → Prop} {s s' s1 : S} {σ σ' : L2.St} {H H' H1 : Hp} {Wx : WX}
theorem Sim.more (x : Sim K mg ea io Fr s σ H) (k : ∀ a o, H a = some o → H' a = some o) : Sim K mg ea io Fr s σ H' ∧ Stp io (Ms io Fr s σ) Fr H io (Ms io Fr s σ) H' := by
  have same : ∀ a, Ms io Fr s σ a → H' a = H a := fun a z => by
    obtain ⟨o, e⟩ := x.trk z
    rw [k a o e, e]
  have p : Pers io (Ms io Fr s σ) H io (Ms io Fr s σ) H' := ⟨fun a o e _ => k a o e, fun a z => .inl z, fun _ _ e => e⟩
  refine ⟨x.move p same (fun a z h => x.g.dj a h (.inl z)) (fun a i c z h1 h2 => ?_) fun a z => ?_, p, fun a z => same a (.inr (.inl z)), fun a o e => ⟨o, k a o e⟩⟩
  · obtain ⟨b, o, q1, _, _, q4⟩ := x.own i c h1
    rw [h2] at q1
    cases q1
    exact q4 z
  · obtain ⟨o, e, n⟩ := x.g.fr a (.inl z)
    exact ⟨o, k a o e, n⟩
end
end Z
set_option linter.all false
set_option Elab.async false
set_option maxRecDepth 100000
namespace Z
open PySem PySem.Spec PyProof.Rows
open L2 hiding XE Takes CX takes_of passes_call passAt MkP PMk ps_raise mk_of ps_try_as ps_try_many pmk_own Takes.imp
open L2N
def refsZ (o : Obj) : List Addr := match o.data with
  | .seq its _ => its.toList.flatMap He.refV
  | .dict es _ => es.toList.flatMap fun e => He.refV e.val
  | .func fd => He.refV fd.code ++ (He.refV fd.defaults ++ (He.refV fd.kwdefaults ++ fd.closure.map (·.2)))
  | .cls cd => [cd.ns]
  | .fields vs => (match o.cls with
    | .type c => if c = "property" ∨ c = "classmethod" then vs.toList.flatMap He.refV else []
    | _ => [])
  | _ => []
def refsG (g : Addr → Option Obj) (a : Addr) : List Addr := match g a with
  | some o => refsZ o
  | none => []
def newZ : List Addr → Nat → List Addr × Nat
  | [], s => ([], s)
  | a :: r, s => bif s.testBit a then newZ r s else match newZ r (s ||| 2 ^ a) with
    | (l, s') => (a :: l, s')
def bfsZ (g : Addr → Option Obj) : Nat → List Addr → Nat → List Addr
  | 0, fr, _ => fr
  | n + 1, fr, s => match newZ (fr.flatMap (refsG g)) s with
    | (l, s') => fr ++ bfsZ g n l s'
def asZ (g : Addr → Option Obj) (n : Nat) : List Addr := bfsZ g n [mainGlobals, cStatics] (2 ^ mainGlobals ||| 2 ^ cStatics)
theorem ck_at {l : List Bool} (h : (l.all fun b => b) = true) (i : Nat) {b : Bool} (e : l[i]? = some b) : b = true := List.all_eq_true.mp h b (List.mem_of_getElem? e)
theorem ck_d {l : List Bool} {p : Prop} [Decidable p] (h : (l.all fun b => b) = true) (i : Nat) (e : l[i]? = some (decide p)) : p := of_decide_eq_true (ck_at h i e)
def intB (K : PySem.W.Frag) (x : Str) (i : Int) : Bool := match PySem.W.nsIn K mainGlobals x with
  | some (some (.int j _)) => decide (j = i)
  | _ => false
theorem intB_ok {K : PySem.W.Frag} {x : Str} {i : Int} (h : intB K x i = true) : ∃ tk, PySem.W.nsIn K mainGlobals x = some (some (.int i tk)) := by
  unfold intB at h
  split at h
  · rename_i j tk e
    have := of_decide_eq_true h
    subst this
    exact ⟨tk, e⟩
  · cases h
def excB (K : PySem.W.Frag) (C : Addr) (bm : List Value) (nid : String) : Bool := match K.lookup C with
  | some ⟨.type t, _, .cls cd, sl⟩ => decide (t = "type") && (decide (cd.mro = .ref C :: bm) && (cd.hasDict && (!cd.hasDel && match sl.toList with
    | [_, _, _, _, some (.builtin b), _] => decide (b = nid)
    | _ => false)))
  | _ => false
theorem excB_ok {K : PySem.W.Frag} {C : Addr} {bm : List Value} {nid : String} (h : excB K C bm nid = true) : ∃ nm qq N bs sn sb ab co dd m0 m1 m2 m3 m5, K.lookup C = some (excClassObj nm qq C N bs bm true sn sb ab co dd m0 m1 m2 m3 m5 nid) := by
  unfold excB at h
  split at h
  · rename_i t dd cd sl e
    obtain ⟨h1, h⟩ := He.ba h
    obtain ⟨h2, h⟩ := He.ba h
    obtain ⟨h3, h⟩ := He.ba h
    obtain ⟨h4, h⟩ := He.ba h
    have h1 := of_decide_eq_true h1
    have h2 := of_decide_eq_true h2
    split at h
    · rename_i m0 m1 m2 m3 b m5 es
      have h5 := of_decide_eq_true h
      obtain ⟨nm, bs, mro, N, qq, hd, sn, sb, ab, co, hdel⟩ := cd
      simp only at h2 h3 h4
      have h4' : hdel = false := by simpa using h4
      subst h1 h2 h3 h4' h5
      have esl : sl = #[m0, m1, m2, m3, some (.builtin b), m5] := by
        apply Array.ext'
        rw [es]
      subst esl
      exact ⟨nm, qq, N, bs, sn, sb, ab, co, dd, m0, m1, m2, m3, m5, e⟩
    · cases h
  · cases h
abbrev FnZ : Type := Option (Str × Str × Arguments × FuncBody × Scope)
def fnO (K : PySem.W.Frag) (f : Addr) : FnZ := match K.lookup f with
  | some ⟨_, _, .func fd, _⟩ => some (fd.name, fd.qualname, fd.params, fd.body, fd.scope)
  | _ => none
def fnB (K : PySem.W.Frag) (f : Addr) (q : Str) : Bool := match K.lookup f with
  | some ⟨_, _, .func fd, _⟩ => Nat.beq fd.globals mainGlobals && (fd.closure.isEmpty && ((match fd.defaults with
    | .none => true
    | _ => false) && (Nat.beq fd.builtins builtinsNs && PySem.W.codeIn K fd.code q)))
  | _ => false
theorem fn_okZ {K : PySem.W.Frag} {f : Addr} {n q : Str} {ps : Arguments} {b : List Stmt} {sc : Scope} (e : fnO K f = some (n, q, ps, .stmts b, sc)) (c : fnB K f q = true) :
    ∃ oc od osl kV doc pm an cdv ct, K.lookup f = some ⟨oc, od, .func (PySem.W.fnOf n q ps b sc .none kV doc pm an cdv ct), osl⟩ ∧ PySem.W.codeIn K cdv q = true := by
  unfold fnO at e
  unfold fnB at c
  split at c
  · rename_i oc od fd osl el
    rw [el] at e
    obtain ⟨n1, n2, n3, n4, n5, n6, n7, n8, n9, n10, n11, n12, n13, n14, n15⟩ := fd
    have e2 : (some (n1, n2, n3, n4, n5) : FnZ) = some (n, q, ps, .stmts b, sc) := e
    simp only [Option.some.injEq, Prod.mk.injEq] at e2
    obtain ⟨h1, h2, h3, h4, h5⟩ := e2
    obtain ⟨c1, c⟩ := He.ba c
    obtain ⟨c2, c⟩ := He.ba c
    obtain ⟨c3, c⟩ := He.ba c
    obtain ⟨c4, c5⟩ := He.ba c
    have g1 : n6 = mainGlobals := Nat.eq_of_beq_eq_true c1
    have g2 : n7 = [] := by
      have : n7.isEmpty = true := c2
      simpa using this
    have g4 : n15 = builtinsNs := Nat.eq_of_beq_eq_true c4
    have g3 : n8 = .none := by cases n8 <;> first | rfl | cases c3
    clear c1 c2 c3 c4
    subst h1 h2 h3 h4 h5 g1 g2 g3 g4
    exact ⟨oc, od, osl, n9, n10, n11, n12, n13, n14, el, c5⟩
  · cases c
def dflZ (K : PySem.W.Frag) (dV : Value) : Bool := match dV with
  | .ref t => (match K.lookup t with
    | some ⟨_, _, .seq its _, _⟩ => (match its.toList with
      | [.ref e] => (match K.lookup e with
        | some ⟨.type c, _, .seq js _, _⟩ => js.toList.isEmpty && decide (c = "tuple")
        | _ => false)
      | _ => false)
    | _ => false)
  | _ => false
theorem dflZ_ok {K : PySem.W.Frag} {dV : Value} (h : dflZ K dV = true) : ∃ (t el : Addr) (tc : Value) (td te : Option Addr) (tn en : Nat) (ts es : Array (Option Value)), dV = .ref t ∧ K.lookup t = some ⟨tc, td, .seq #[.ref el] tn, ts⟩ ∧ K.lookup el = some ⟨.type "tuple", te, .seq #[] en, es⟩ := by
  unfold dflZ at h
  split at h
  · rename_i t
    split at h
    · rename_i tc td its tn ts e1
      split at h
      · rename_i el ei
        split at h
        · rename_i c te js en es e2
          obtain ⟨h1, h2⟩ := He.ba h
          have h2 := of_decide_eq_true h2
          have hj : js = #[] := by
            have : js.toList = [] := by simpa using h1
            exact Array.ext' this
          have hi : its = #[.ref el] := Array.ext' ei
          subst h2 hj hi
          exact ⟨t, el, tc, td, te, tn, en, ts, es, rfl, e1, e2⟩
        · cases h
      · cases h
    · cases h
  · cases h
def fnBD (K : PySem.W.Frag) (f : Addr) (q : Str) : Bool := match K.lookup f with
  | some ⟨_, _, .func fd, _⟩ => Nat.beq fd.globals mainGlobals && (fd.closure.isEmpty && (dflZ K fd.defaults && (Nat.beq fd.builtins builtinsNs && PySem.W.codeIn K fd.code q)))
  | _ => false
theorem fn_okD {K : PySem.W.Frag} {f : Addr} {n q : Str} {ps : Arguments} {b : List Stmt} {sc : Scope} (e : fnO K f = some (n, q, ps, .stmts b, sc)) (c : fnBD K f q = true) :
    ∃ (t el : Addr) (tc : Value) (td te : Option Addr) (tn en : Nat) (ts es : Array (Option Value)) (oc : Value) (od : Option Addr) (osl : Array (Option Value)) (kV doc pm : Value) (an : Option Addr) (cdv ct : Value), K.lookup f = some ⟨oc, od, .func (PySem.W.fnOf n q ps b sc (.ref t) kV doc pm an cdv ct), osl⟩ ∧ PySem.W.codeIn K cdv q = true ∧
      K.lookup t = some ⟨tc, td, .seq #[.ref el] tn, ts⟩ ∧ K.lookup el = some ⟨.type "tuple", te, .seq #[] en, es⟩ := by
  unfold fnO at e
  unfold fnBD at c
  split at c
  · rename_i oc od fd osl el
    rw [el] at e
    obtain ⟨n1, n2, n3, n4, n5, n6, n7, n8, n9, n10, n11, n12, n13, n14, n15⟩ := fd
    have e2 : (some (n1, n2, n3, n4, n5) : FnZ) = some (n, q, ps, .stmts b, sc) := e
    simp only [Option.some.injEq, Prod.mk.injEq] at e2
    obtain ⟨h1, h2, h3, h4, h5⟩ := e2
    obtain ⟨c1, c⟩ := He.ba c
    obtain ⟨c2, c⟩ := He.ba c
    obtain ⟨c3, c⟩ := He.ba c
    obtain ⟨c4, c5⟩ := He.ba c
    have g1 : n6 = mainGlobals := Nat.eq_of_beq_eq_true c1
    have g2 : n7 = [] := by
      have : n7.isEmpty = true := c2
      simpa using this
    have g4 : n15 = builtinsNs := Nat.eq_of_beq_eq_true c4
    obtain ⟨t, el', tc, td, te, tn, en, ts, es, g3, d1, d2⟩ := dflZ_ok c3
    have g3 : n8 = .ref t := g3
    clear c1 c2 c3 c4
    subst h1 h2 h3 h4 h5 g1 g2 g3 g4
    exact ⟨t, el', tc, td, te, tn, en, ts, es, oc, od, osl, n9, n10, n11, n12, n13, n14, el, c5, d1, d2⟩
  · cases c
def obsZ (n : Nat) (chk : PySem.W.Frag → Bool) (fn : List (PySem.W.Frag → Addr)) (g : Addr → Option Obj) : Bool × List FnZ := (chk (He.frG g (asZ g n)), fn.map fun f => fnO (He.frG g (asZ g n)) (f (He.frG g (asZ g n))))
def SaysZ (chk : PySem.W.Frag → Bool) (fn : List (PySem.W.Frag → Addr)) (vs : List FnZ) (K : PySem.W.Frag) : Prop := chk K = true ∧ (fn.map fun f => fnO K (f K)) = vs
def hookZ (n : Nat) (chk : PySem.W.Frag → Bool) (fn : List (PySem.W.Frag → Addr)) (vs : List FnZ) : PySem.W.Hook where
  α := Bool × List FnZ
  obs := fun s => obsZ n chk fn s.heap.get?
  val := fun _ => (true, vs)
  says := fun _ h => ∃ K : PySem.W.Frag, K.In h ∧ SaysZ chk fn vs K
  of := fun _ _ e => ⟨_, He.frG_in, congrArg (·.1) e, congrArg (·.2) e⟩
  keeps := fun _ _ _ ⟨K, hK, c⟩ k => ⟨K, PySem.W.Frag.In.keeps hK k, c⟩
theorem obsZ_eq {n : Nat} {chk : PySem.W.Frag → Bool} {fn : List (PySem.W.Frag → Addr)} {vs : List FnZ} {g : Addr → Option Obj} {s : Shared} (h : ∀ a, g a = s.heap.get? a) : obsZ n chk fn g = (hookZ n chk fn vs).obs s := by
  have e : g = s.heap.get? := funext h
  rw [e]
  rfl
theorem SaysZ.fn_ {chk : PySem.W.Frag → Bool} {fn : List (PySem.W.Frag → Addr)} {vs : List FnZ} {K : PySem.W.Frag} (c : SaysZ chk fn vs K) (i : Nat) {f : PySem.W.Frag → Addr} {v : FnZ} (h : fn[i]? = some f) (hv : vs[i]? = some v) : fnO K (f K) = v := by
  have e := congrArg (fun l => l[i]?) c.2
  simp only [List.getElem?_map, h, hv, Option.map_some] at e
  exact Option.some.inj e
theorem walkE {l : PySem.W.OpenLaw} {q : Program} {loose : List Str} {XP : (Str → Option Value) → Heap → Prop} {YP : World → Heap → Prop} {d : DefRec} {k : Nat} {x : Str} (hn : l.most = some 63) (hdf : d.params.defaults = []) (hr : Room k callerA)
    (F : ∀ (w : World) (mg : Str → Option Value) (fa : Addr) (h : Heap), YP w h → h.Ns mainGlobals mg → mg d.name = some (.ref fa) →
      ∃ K : PySem.W.Frag, K.In h ∧ ∃ fd : FuncData, (∀ (s : Shared) (u : Value), BindsTo s fd ⟨[u], []⟩ [(x, u)]) ∧ ∀ base : Heap, K.In base → base.Ns mainGlobals mg → FnOk l.prog w K mg base (L2N.CX l.prog w) k fa fd [x] (spLaw K)) :
    PySem.W.WalkO q loose XP YP l.row.toRowW d [] (fun f vs => PySem.call f vs) := by
  refine Att.attach_callB hn hdf fun w s₀ s₁ mg mb fa o pm cd doc a vs ns G Y ho hd hcd hmg hobj hints hlen hbits hg => ?_
  obtain ⟨K, KX, fd, hb, hF⟩ := F w mg fa _ Y G.T.g hmg
  exact law_call KX G.T.g G.T.b G.T.builtins G.T.nolimit hg hobj hints (Nat.le_trans hlen (by decide)) hr hF hb (fun H hO hS => ⟨a, ns, rfl, hS, hlen, hbits, fun _ => rfl⟩) fun H e s' z => by
    obtain ⟨_, _, _, _, _, _, _, _, _, _, _, _, hE⟩ := z
    exact hE
end Z
set_option linter.all false
set_option Elab.async false
set_option maxRecDepth 100000
set_option linter.all false
set_option Elab.async false
set_option maxRecDepth 100000
set_option linter.all false
set_option Elab.async false
set_option maxRecDepth 100000
set_option linter.all false
set_option Elab.async false
set_option maxRecDepth 100000
namespace Z
open PySem PySem.Spec PyProof.Rows L2 GenW
section
variable {P : Program} {w : World} {K : PySem.W.Frag} {mg : Str → Option Value} {base : Heap}
theorem GFn.mono {k k' : Nat} {f : Addr} {fd : FuncData} {ps : List Str} {sp : SpG} (F : GFn P w K mg base k f fd ps sp) (h : k ≤ k') : GFn P w K mg base k' f fd ps sp := by
  refine ⟨F.len, fun A outer s H args us vs Q E hr e0 hb r hsp => ?_⟩
  refine codeAny_mono (F.run A outer s H args us vs Q E (hr.mono h) e0 hb r hsp) fun r s' hq => ?_
  cases r with
  | error e => exact hq
  | ok fl =>
    cases fl with
    | ret u =>
      obtain ⟨a, g, c, q1, q2, q3, q4, q5, q6, q7, q8, q9, q10⟩ := hq
      exact ⟨a, g, c, q1, q2, q3, q4, q5, q6, q7, q8, q9, fun A S s2 hr => q10 A S s2 (hr.mono h)⟩
    | next => exact hq
    | brk => exact hq
    | cont => exact hq
end
end Z
set_option linter.all false
set_option Elab.async false
set_option maxRecDepth 100000
set_option linter.all false
set_option Elab.async false
set_option maxRecDepth 100000
set_option linter.all false
set_option Elab.async false
set_option maxRecDepth 100000
set_option linter.all false
set_option Elab.async false
set_option maxRecDepth 100000
set_option maxHeartbeats 3200000
namespace Z
open PySem PySem.Spec PyProof.Rows
open L2 hiding XE Takes CX takes_of passes_call passAt MkP PMk ps_raise mk_of ps_try_as ps_try_many pmk_own Takes.imp
open L2N
section
variable {K : PySem.W.Frag} {mg : Str → Option Value} {ea : EA} {Wx : WX} {io : List Addr} {M : Addr → Prop} {H : Hp}
theorem p3 {α β : Type} {F : α → β → Prop} {x x' x'' : α} {ys : List β} (h : Paired F [x, x', x''] ys) : ∃ y y' y'', ys = [y, y', y''] ∧ F x y ∧ F x' y' ∧ F x'' y'' := by
  cases h with
  | cons h t =>
    obtain ⟨y', y'', rfl, h', h''⟩ := p2 t
    exact ⟨_, _, _, rfl, h, h', h''⟩
end
end Z
set_option linter.all false
set_option Elab.async false
set_option maxRecDepth 100000
set_option linter.all false
set_option Elab.async false
set_option maxRecDepth 100000
namespace Z
open PySem PySem.Spec PyProof.Rows
open L2 hiding XE Takes CX takes_of passes_call passAt MkP PMk ps_raise mk_of ps_try_as ps_try_many pmk_own Takes.imp
open L2N
def lk (L : List (Addr × Obj)) (H : Hp) : Hp := fun b => match L.lookup b with
  | some o => some (.frz o (.own b))
  | none => H b
end Z
set_option Elab.async false
set_option linter.all false
set_option maxRecDepth 100000
set_option maxHeartbeats 1000000
namespace Z
open PySem PySem.Spec PyProof.Rows
open L2 hiding XE Takes CX takes_of passes_call passAt MkP PMk ps_raise mk_of ps_try_as ps_try_many pmk_own Takes.imp
open L2N
structure FnEZ (K : PySem.W.Frag) (f : Addr) (n q : Str) (s : Stmt) where
  oc : Value
  od : Option Addr
  sl : Array (Option Value)
  kV : Value
  dc : Value
  pm : Value
  an : Option Addr
  cd : Value
  ct : Value
  l : K.lookup f = some ⟨oc, od, .func (PySem.W.fnOf n q (defArgs s) (defBody s) (defScope s) .none kV dc pm an cd ct), sl⟩
  cc : PySem.W.codeIn K cd q = true
  kk : PySem.W.keepIn K (.ref f) = true
abbrev FnEZ.fd {K : PySem.W.Frag} {f : Addr} {n q : Str} {s : Stmt} (e : FnEZ K f n q s) : FuncData := PySem.W.fnOf n q (defArgs s) (defBody s) (defScope s) .none e.kV e.dc e.pm e.an e.cd e.ct
theorem FnEZ.F {K : PySem.W.Frag} {f : Addr} {n q : Str} {s : Stmt} (e : FnEZ K f n q s) : Fun K n q s f e.fd := fun_mk e.l e.cc e.kk
theorem fn_okE {K : PySem.W.Frag} (f : Addr) (n q : Str) (s : Stmt) (e : fnO K f = some (n, q, defArgs s, .stmts (defBody s), defScope s)) (c : fnB K f q = true) (d : PySem.W.keepIn K (.ref f) = true) : Nonempty (FnEZ K f n q s) := by
  obtain ⟨oc, od, osl, kV, doc, pm, an, cdv, ct, l, cc⟩ := fn_okZ e c
  exact ⟨⟨oc, od, osl, kV, doc, pm, an, cdv, ct, l, cc, d⟩⟩
end Z
set_option linter.all false
set_option Elab.async false
set_option maxRecDepth 100000
set_option maxHeartbeats 4000000
namespace Z
open PySem PySem.Spec PyProof.Rows
open L2 hiding XE Takes CX takes_of passes_call passAt MkP PMk ps_raise mk_of ps_try_as ps_try_many pmk_own Takes.imp
open L2N
section
variable {prog : Program} {w : World} {A : Around} {E : Value → Shared → Prop} {s : Shared} {c x1 src : Addr} {n : Nat}
theorem stopped_hot {Q : _root_.PySem.Fin → Shared → Prop} (hot : HotX.HotAt A x1 s.heap) (land : ∀ (e : Addr) (s2 : Shared), s2.TypeIs (.ref e) "StopIteration" → (∀ b o, s.heap.get? b = some o → s2.heap.get? b = some o) → s2 = { s with heap := s2.heap } → E (.ref e) s2) :
    wpAny (model prog w) A Builtin.SmallTypes.stopIteration Q E s := by
  obtain ⟨hh, ob, vs, g1, g2, g3⟩ := hot
  show wpAny _ _ (newExc (.type "StopIteration") [] >>= fun e => _) _ _ _
  refine wpAny_bind ?_
  simp only [newExc, newTuple]
  refine wpAny_bind (wpAny_newObj_type (wpAny_bind (m := firstArgMember _ _) (wpAny_of_eq (a := Value.none) (by first | rfl | (simp only [firstArgMember]; rfl)) (wpAny_newObj_type ?_ (by size_fits)))) (by size_fits))
  have up : ∀ {o1 o2 : Obj} {b : Addr} {o : Obj}, s.heap.get? b = some o → ((s.heap.push o1).push o2).get? b = some o := fun z => Heap.get?_push_of_some _ (Heap.get?_push_of_some _ z)
  refine HotX.raiseNew_hot ⟨hh, ob, vs, up g1, g2, g3⟩ (Nat.ne_of_lt (Heap.lt_size (Heap.get?_push_of_some _ g1))) (Heap.get?_push_size _ rfl) rfl (by first | (simp; done) | (simp; omega) | (simp only [Array.size_append]; simp; omega)) ?_
  refine land _ _ ⟨_, Heap.get?_update_self _ (Heap.get?_push_size _ rfl) rfl, rfl⟩ (fun b o z => ?_) rfl
  exact (Heap.get?_update_other _ _ (Nat.ne_of_gt (Heap.lt_size (Heap.get?_push_of_some _ z)))).trans (up z)
theorem tuple_end_hot {items : Array Value} {Q : Option Value → Shared → Prop} (hot : HotX.HotAt A x1 s.heap) (ne : x1 ≠ c) (hit : s.heap.IsTupleIter c src n) (ht : s.heap.IsTuple src items) (out : items[n]? = none)
    (hQ : ∀ h2, (∀ b o, b ≠ c → s.heap.get? b = some o → h2.get? b = some o) → Q none { s with heap := h2 }) : wpAny (model prog w) A (pyNext (.ref c)) Q E s := by
  obtain ⟨oi, gi, ci, di⟩ := id hit
  obtain ⟨ot, gt, _, nt, dt⟩ := ht
  unfold pyNext
  refine wpAny_bind (wpAny_attempt (wpAny_callSpecial?_slot (name := Str.ofString "__next__") hit.typeIs F.slot_tuple_iterator_next (wpAny_call_entry F.slot_tuple_iterator_next hit.typeIs F.entry_tuple_iterator_next ?_ (F.args_tuple_iterator_next_1 _))))
  show wpAny _ _ (field (.ref c) 0 >>= _) _ _ s
  refine wpAny_bind (wpAny_field gi di (x := .ref src) rfl ?_)
  show wpAny _ _ (if (Value.ref src == Value.none) = true then _ else _) _ _ s
  rw [if_neg (show ¬ ((Value.ref src == Value.none) = true) from Bool.false_ne_true)]
  show wpAny _ _ (field (.ref c) 1 >>= _) _ _ s
  refine wpAny_bind (wpAny_field gi di (x := .int n 0) rfl ?_)
  show wpAny _ _ (seqItems? (.ref src) >>= _) _ _ s
  refine wpAny_bind (wpAny_seqItems gt dt ?_)
  simp only [Int.toNat_natCast, out]
  refine wpAny_bind (wpAny_rule (wpAny_bind (wpAny_setField gi di (by simp) ?_)))
  obtain ⟨hh, ob, vs, g1, g2, g3⟩ := hot
  refine stopped_hot (x1 := x1) ⟨hh, ob, vs, (Heap.get?_update_other _ _ ne.symm).trans g1, g2, g3⟩ fun e s2 te up es => ?_
  refine wpAny_bind (wpAny_isInstance (T := "StopIteration") (b := true) te isSubtype_stop ?_)
  rw [es]
  exact wpAny_pure (hQ _ fun b o nb z => up b o ((Heap.get?_update_other _ _ (Ne.symm nb)).trans z))
end
end Z
set_option linter.all false
set_option Elab.async false
set_option maxRecDepth 100000
set_option maxHeartbeats 4000000
namespace Z
open PySem PySem.Spec PyProof.Rows
open L2 hiding XE Takes CX takes_of passes_call passAt MkP PMk ps_raise mk_of ps_try_as ps_try_many pmk_own Takes.imp
open L2N
section
variable {X : Cx}
theorem pe_lcH {elt tg iter : Expr} {ifs : List Expr} {scope : Scope} {own : List (Str × Nat)} {pos : Pos} {tl te : TE} {g : TG} {tt : TT} (hot : L2H.HotC X) (hN : X.N.Nodup) (hl : PE X iter tl) (ok : BlkOk X.N X.env.scope scope own)
    (hg : ∀ (s : Shared) (H : Hp) (C : Addr) (cl : List (Str × Addr)) (fp : List Addr), PG (X.blk s H scope (compEnvC scope cl C X.env) fp) tg g)
    (ht : ∀ (s : Shared) (H : Hp) (C : Addr) (cl : List (Str × Addr)) (fp : List Addr), PTs (X.blk s H scope (compEnvC scope cl C X.env) fp) ifs tt)
    (he : ∀ (s : Shared) (H : Hp) (C : Addr) (cl : List (Str × Addr)) (fp : List Addr), PE (X.blk s H scope (compEnvC scope cl C X.env) fp) elt te)
    (hs : ∀ x, foldedSetIterable iter X.env x = pure x) : PE X (.ListComp elt [⟨tg, iter, ifs, 0⟩] scope pos) (tLc (iTup X.K tl) g tt te (own.map (·.2))) := by
  obtain ⟨⟨z, oz⟩, ⟨hz1, uz, dz, cz⟩, mz⟩ := hot
  refine ⟨fun pins s0 σ H0 Q I0 h => ?_⟩
  rw [eval_ListComp]
  have shut := closure_ok (scope := scope) (env := X.env) fun y hy e => (ok.free y hy e).elim (fun k => I0.ok.has _ (.inl k)) fun k => I0.ok.has _ (.inr k)
  refine wpAny_comprehension_free (use := none) rfl hs shut ok.kind (fun y hy e => (ok.uniq y hy).trans (congrArg some e)) (thn (hl.run pins s0 σ H0 _ I0 h) fun xv s1 ⟨x, H1, I1, r1, a, ea, ⟨xs, hq⟩, q⟩ => ?_)
  subst ea
  cases r1
  obtain ⟨its, rv, p, _⟩ := I1.tuple hq
  have isT : s1.heap.IsTuple a its.toArray := p
  refine wpAny_pyIter_tuple isT ?_
  obtain ⟨it, hit⟩ : ∃ it, it = s1.heap.objs.size := ⟨_, rfl⟩
  rw [← hit]
  generalize e2 : ({ s1 with heap := s1.heap.push { cls := .type "tuple_iterator", data := .fields #[.ref a, .int 0 0] } } : Shared) = s2
  have I2 : Inv X pins σ H1 s2 := by
    rw [← e2]
    exact I1.kept (t' := s1.toks) fun b o y => Heap.get?_push_of_some _ y
  have T2 : s2.heap.IsTupleIter it a 0 := by
    rw [← e2, hit]; exact ⟨_, Heap.get?_push_size _ rfl, rfl, rfl⟩
  have F2 : FpOk X pins H1 it := by
    rw [hit]; exact I1.fpOk (Nat.le_refl _) (I1.hok.fresh (Nat.le_refl _))
  have lit : it < s2.heap.objs.size := let ⟨_, y, _⟩ := T2; Heap.lt_size y
  have empty : 0 ≤ sizeLine := Nat.zero_le _
  refine wpAny_newObj_type (newEnv_comp ?_) empty
  obtain ⟨D, hD⟩ : ∃ D, s2.heap.objs.size = D := ⟨_, rfl⟩
  rw [hD]
  obtain ⟨W, ⟨m0, w0⟩, turn⟩ := q D (I2.hok.fresh (Nat.le_of_eq hD))
  generalize e3 : ({ s2 with heap := s2.heap.push { cls := .type "list", data := .seq ([] : List Value).toArray } } : Shared) = s3
  have g3 : s3.heap = s2.heap.push { cls := .type "list", data := .seq ([] : List Value).toArray } := by rw [← e3]
  obtain ⟨H3, hH3⟩ : ∃ H3, upd H1 D (.lst []) = H3 := ⟨_, rfl⟩
  rw [hH3] at w0
  have I3 : Inv X pins σ H3 s3 := by
    rw [← hH3, ← e3]
    refine I2.laid (t' := s2.toks) (fun b o y => Heap.get?_push_of_some _ y) (Nat.le_of_eq hD) ⟨Nat.zero_le _, [], 0, .nil, ?_⟩
    rw [← hD]; exact Heap.get?_push_size _ rfl
  have F3 : ∀ b ∈ [it], FpOk X pins H3 b ∧ b < s3.heap.objs.size := fun b hb => by
    obtain rfl := List.mem_singleton.mp hb
    refine ⟨⟨?_, F2.2⟩, by rw [g3, Heap.size_push]; exact Nat.lt_succ_of_lt lit⟩
    rw [← hH3, upd_ne (by rw [← hD]; exact Nat.ne_of_lt lit)]
    exact F2.1
  have T3 : s3.heap.IsTupleIter it a 0 := T2.at fun o y => by rw [g3]; exact Heap.get?_push_of_some _ y
  obtain ⟨z1, z2, z3, z4, -⟩ := I3.pin (z, oz) (List.mem_append_left _ mz)
  have nit : z ≠ it := fun y => by
    rw [hit] at y
    have w := Heap.lt_size (I1.pin (z, oz) (List.mem_append_left _ mz)).1
    rw [show (z, oz).1 = z from rfl, y] at w
    exact absurd w (Nat.lt_irrefl _)
  have I4 := block_start I3 ok hN F3
  have pg := hg s3 H3 s3.heap.objs.size (cellsFrom (s3.heap.objs.size + 1) scope.names (cloFrom X.env.cells scope.names [])) [it]
  have pt := ht s3 H3 s3.heap.objs.size (cellsFrom (s3.heap.objs.size + 1) scope.names (cloFrom X.env.cells scope.names [])) [it]
  have pe := he s3 H3 s3.heap.objs.size (cellsFrom (s3.heap.objs.size + 1) scope.names (cloFrom X.env.cells scope.names [])) [it]
  generalize hB : ({ s3 with heap := pushCells (s3.heap.push { cls := .type "dict", data := .dict #[] }) scope.names } : Shared) = s4 at I4 ⊢
  obtain ⟨ce, hce⟩ : ∃ ce, ce = compEnvC scope (cellsFrom (s3.heap.objs.size + 1) scope.names (cloFrom X.env.cells scope.names [])) s3.heap.objs.size X.env := ⟨_, rfl⟩
  rw [← hce] at I4 pg pt pe
  have cL : ce.locals = s3.heap.objs.size := by rw [hce]; rfl
  show codeAny _ _ (.compStart (.ListComp elt [⟨tg, iter, ifs, 0⟩] scope pos) 0 (.ref it) (.ref D) (compEnvC scope (cellsFrom (s3.heap.objs.size + 1) scope.names (cloFrom X.env.cells scope.names [])) s3.heap.objs.size X.env)) (compPost (model X.prog X.w) X.A X.xe none _ (.ref D) s3.heap.objs.size) s4
  rw [← hce]
  have heat : ∀ {σ' : L2.St} {H' : Hp} {s' : Shared}, Inv (X.blk s3 H3 scope ce [it]) [] σ' H' s' → HotX.HotAt X.A z s'.heap := fun I' => ⟨hz1, oz, uz, I'.base.keep z oz z1 z2 (fun y => (List.mem_cons.mp (I3.stkSub z y)).elim z3 z4) (fun y => nit (List.mem_singleton.mp y)), dz, cz⟩
  have stays : ∀ {σ' : L2.St} {H' : Hp} {s' : Shared}, Inv (X.blk s3 H3 scope ce [it]) [] σ' H' s' → H' it = none → ∀ b ∈ [it], FpOk (X.blk s3 H3 scope ce [it]) [] H' b := fun I' hn b hb => by
    obtain rfl := List.mem_singleton.mp hb
    exact ⟨hn, (I'.ok.exf b hb).1, I'.ok.exfs b hb, .inl hb, fun x c e => (I'.ok.exf b hb).2 x c e, fun p hp => absurd (show p ∈ ([] : List (Addr × Obj)) ++ [] from hp) (by simp)⟩
  have T4 : s4.heap.IsTupleIter it a 0 := T3.at fun o y => by rw [← hB]; exact pushCells_keeps _ _ _ _ (Heap.get?_push_of_some _ y)
  have loop : codeAny (model X.prog X.w) X.A (.compLoop (.ListComp elt [⟨tg, iter, ifs, 0⟩] scope pos) 0 (.ref it) (.ref D) ce) (compPost (model X.prog X.w) X.A X.xe none (fun v s' => ∃ x H', Inv X pins σ H' s' ∧ RelV x v ∧ Q x H') (.ref D) s3.heap.objs.size) s4 := by
    refine compLoop_any (fun n s' => ∃ i H', Inv (X.blk s3 H3 scope ce [it]) [] (wipe σ (own.map (·.2))) H' s' ∧ s'.heap.IsTupleIter it a i ∧ H' it = none ∧ W i n H') ?_ m0 ⟨0, H3, I4, T4, (F3 it List.mem_cons_self).1.1, w0⟩
    rintro n s5 ⟨i, H5, I5, T5, n5, w5⟩
    rcases turn i n H5 w5 with ⟨⟨ys, hy, hlen⟩, done⟩ | ⟨⟨ys, y0, hy, hget⟩, Nx, hNx, step⟩
    ·
      obtain ⟨jts, rj, pj, _⟩ := I5.tuple hy
      obtain ⟨k0, k1, k2, k3, k4, k5⟩ := stays I5 n5 it List.mem_cons_self
      have lj := rj.length
      refine tuple_end_hot (heat I5) nit T5 (show s5.heap.IsTuple a jts.toArray from pj) (by simp; omega) fun h6 same => ?_
      have I6 : Inv (X.blk s3 H3 scope ce [it]) [] (wipe σ (own.map (·.2))) H5 { s5 with heap := h6 } := I5.turned (t' := s5.toks) (fun b o nb y => same b o nb y) k0 k1 k3 k4 k5
      have I7 : Inv X pins σ H5 { s5 with heap := h6 } := I3.call' (ch := [it]) I6.os I6.base I6.hok I6.bare fun b hb => ⟨(F3 b hb).1.2.2.2.1, (F3 b hb).1.2.1, (F3 b hb).1.2.2.2.2.1, (F3 b hb).1.2.2.2.2.2⟩
      have nC : H5 s3.heap.objs.size = none := cL ▸ I6.free
      obtain ⟨m, names, _⟩ := I6.loc
      have names : ({ s5 with heap := h6 } : Shared).heap.Ns ce.locals m := names
      rw [cL] at names
      obtain ⟨j0, j1, j2, j3, j4, j5⟩ := I3.fpOk (Nat.le_refl _) nC
      exact ⟨m, names, fun h8 sb => ⟨.ref D, H5, I7.turned (t' := s5.toks) (fun b o nb y => (sb.2 b nb).trans y) j0 j1 j3 j4 j5, rfl, done⟩⟩
    ·
      obtain ⟨jts, rj, pj, _⟩ := I5.tuple hy
      obtain ⟨u, hu, ru⟩ := rj.get hget
      obtain ⟨k0, k1, k2, k3, k4, k5⟩ := stays I5 n5 it List.mem_cons_self
      refine wpAny_pyNext_tuple_item T5 (show s5.heap.IsTuple a jts.toArray from pj) (x := u) (by simpa using hu) fun h6 T6 sb => ?_
      have I6 : Inv (X.blk s3 H3 scope ce [it]) [] (wipe σ (own.map (·.2))) H5 { s5 with heap := h6 } := I5.turned (t' := s5.toks) (fun b o nb y => (sb.2 b nb).trans y) k0 k1 k3 k4 k5
      obtain ⟨o6, at6, c6, d6⟩ := id T6
      refine go_of (s := { s5 with heap := h6 }) at6 c6 d6 (by decide) ?_
      have yl : (Itt X.K a).yld i H5 y0 H5 := ⟨rfl, fun zs hz => by rw [I6.tuple_inj hz hy]; exact hget⟩
      have I6' := I6.pinned (stays I6 n5) fun b hb => by
        obtain rfl := List.mem_singleton.mp hb
        exact ⟨o6, at6, fun v y => by rw [d6] at y; cases y⟩
      refine thnF (pg.run _ _ _ H5 y0 u _ I6' ru (step y0 H5 yl)) fun _ s8 ⟨σ8, H8, I8, hw8, q8⟩ => ?_
      refine thnF (pt.run _ s8 σ8 H8 _ I8 q8) fun b s9 ⟨H9, I9, q9⟩ => ?_
      have again : ∀ {s' : Shared} {H' : Hp}, Inv (X.blk s3 H3 scope ce [it]) ([] ++ pinsAt [it] h6) σ8 H' s' → Nx H' → ∃ m, m < n ∧ ∃ i H', Inv (X.blk s3 H3 scope ce [it]) [] (wipe σ (own.map (·.2))) H' s' ∧ s'.heap.IsTupleIter it a i ∧ H' it = none ∧ W i m H' := fun {s' H'} I' nx => by
        obtain ⟨m', hm, w'⟩ := hNx H' nx
        have here := I'.pin (it, o6) (List.mem_append_right _ (List.mem_append_right _ (mem_pinsAt List.mem_cons_self at6)))
        have same : (wipe σ (own.map (·.2))).length = σ8.length := by rw [← hw8, wipe_length]
        refine ⟨m', hm, i + 1, H', (I'.unpinned (pins := [])).weak same (fun j v e => ?_), ⟨o6, here.1, c6, d6⟩, here.2.1, w'⟩
        rw [← hw8] at e
        exact (wipe_some e).1
      cases b with
      | false => exact again I9 q9
      | true =>
        refine thnF (pe.run _ s9 σ8 H9 _ I9 q9) fun v s10 ⟨yv, H10, I10, r10, acc, hD10, hz10, nx⟩ => ?_
        exact app_ok (X := X.blk s3 H3 scope ce [it]) I10 hD10 hz10 r10 fun s11 I11 => again I11 nx
  exact codeAny_compStart_list loop (wpAny_pyIter_tupleiter T4 loop)
end
end Z
set_option linter.all false
set_option Elab.async false
set_option maxRecDepth 100000
set_option maxHeartbeats 4000000
namespace Z
open PySem PySem.Spec PyProof.Rows
open L2 hiding XE Takes CX takes_of passes_call passAt MkP PMk ps_raise mk_of ps_try_as ps_try_many pmk_own Takes.imp
open L2N
section
variable {prog : Program} {w : World} {A : Around} {E : Value → Shared → Prop} {s : Shared} {c x1 src : Addr} {n : Nat}
theorem list_end_hot {items : Array Value} {Q : Option Value → Shared → Prop} (hot : HotX.HotAt A x1 s.heap) (ne : x1 ≠ c) (hit : s.heap.IsListIter c src n) (ht : s.heap.IsList src items) (out : items[n]? = none)
    (hQ : ∀ h2, (∀ b o, b ≠ c → s.heap.get? b = some o → h2.get? b = some o) → Q none { s with heap := h2 }) : wpAny (model prog w) A (pyNext (.ref c)) Q E s := by
  obtain ⟨oi, gi, ci, di⟩ := id hit
  obtain ⟨ot, gt, _, nt, dt⟩ := ht
  unfold pyNext
  refine wpAny_bind (wpAny_attempt (wpAny_callSpecial?_slot (name := Str.ofString "__next__") hit.typeIs slot_listiter_next (wpAny_call_entry slot_listiter_next hit.typeIs entry_listiter_next ?_ (args_listiter_next _))))
  show wpAny _ _ (field (.ref c) 0 >>= _) _ _ s
  refine wpAny_bind (wpAny_field gi di (x := .ref src) rfl ?_)
  show wpAny _ _ (if (Value.ref src == Value.none) = true then _ else _) _ _ s
  rw [if_neg (show ¬ ((Value.ref src == Value.none) = true) from Bool.false_ne_true)]
  show wpAny _ _ (field (.ref c) 1 >>= _) _ _ s
  refine wpAny_bind (wpAny_field gi di (x := .int n 0) rfl ?_)
  show wpAny _ _ (seqItems? (.ref src) >>= _) _ _ s
  refine wpAny_bind (wpAny_seqItems gt dt ?_)
  simp only [Int.toNat_natCast, out]
  refine wpAny_bind (wpAny_rule (wpAny_bind (wpAny_setField gi di (by simp) ?_)))
  obtain ⟨hh, ob, vs, g1, g2, g3⟩ := hot
  refine stopped_hot (x1 := x1) ⟨hh, ob, vs, (Heap.get?_update_other _ _ ne.symm).trans g1, g2, g3⟩ fun e s2 te up es => ?_
  refine wpAny_bind (wpAny_isInstance (T := "StopIteration") (b := true) te isSubtype_stop ?_)
  rw [es]
  exact wpAny_pure (hQ _ fun b o nb z => up b o ((Heap.get?_update_other _ _ (Ne.symm nb)).trans z))
theorem hot_keeps {h h2 : Heap} (hot : HotX.HotAt A x1 h) (k : ∀ o, h.get? x1 = some o → h2.get? x1 = some o) : HotX.HotAt A x1 h2 := by
  obtain ⟨hh, ob, vs, g1, g2, g3⟩ := hot
  exact ⟨hh, ob, vs, k _ g1, g2, g3⟩
theorem walks_hot (I ax : Addr) (n1 : ax ≠ I) (n2 : x1 ≠ I) (items : Array Value) :
    Walks prog w A I [I, ax, x1] [I] items.size (fun i v => items[i]? = some v) (fun i h => (h.IsListIter I ax i ∧ h.IsList ax items) ∧ HotX.HotAt A x1 h) where
  sub := fun b hb => by
    rw [List.mem_singleton.mp hb]
    exact List.mem_cons_self
  frame := fun _ _ _ st hk => ⟨⟨st.1.1.at fun o e => hk I (by simp) o e, st.1.2.at fun o e => hk ax (by simp) o e⟩, hot_keeps st.2 fun o e => hk x1 (by simp) o e⟩
  item := fun i s Q E hi st hQ => by
    refine wpAny_pyNext_list_item st.1.1 st.1.2 (x := items[i]) (by simp [hi]) fun h2 it2 sb => ?_
    refine hQ _ h2 s.toks (by simp [hi]) ⟨⟨it2, st.1.2.extBut sb.extBut n1⟩, hot_keeps st.2 fun o e => sb.extBut x1 o n2 e⟩ fun b o nb e => sb.extBut b o (fun z => nb (by rw [z]; exact List.mem_singleton_self _)) e
  done := fun s Q E st hQ => list_end_hot st.2 n2 st.1.1 st.1.2 (by simp) fun h2 k => hQ h2 s.toks fun b o nb e => k b o (fun z => nb (by rw [z]; exact List.mem_singleton_self _)) e
  self := fun _ _ _ _ st hQ => wpAny_pyIter_listiter st.1.1 hQ
end
section
variable {X : Cx}
theorem cr_allH (hot : L2H.HotC X) : CallR X (.builtin "all") (rAll X.K) := by
  intro pins s σ H vs us Q I r h
  obtain ⟨⟨z, oz⟩, ⟨hz1, uz, dz, cz⟩, mz⟩ := hot
  obtain ⟨a, bs, rfl, hs, q⟩ := h
  obtain ⟨its, rv, hl, _⟩ := I.list hs
  rw [Vals.ref1 r]
  have zs := (I.pin (z, oz) (List.mem_append_left _ mz)).1
  have nz : z ≠ s.heap.objs.size := Nat.ne_of_lt (Heap.lt_size zs)
  refine call_all_walk (iter_any hl.isList fun s2 e2 st ne => ?_)
  subst e2
  refine ⟨_, _, _, _, _, _, _, rfl, walks_hot (A := X.A.in1) (x1 := z) _ a ne nz its.toArray, ⟨st, hz1, oz, uz, Heap.get?_push_of_some _ zs, dz, cz⟩, truth_bools rv.bls, fun h2 tk hk => ?_⟩
  refine ⟨.bl _, H, I.kept fun b o eo => hk b o (fun hm => absurd (List.mem_singleton.mp hm ▸ Heap.lt_size eo) (Nat.lt_irrefl _)) (Heap.get?_push_of_some _ eo), ?_, q⟩
  show Value.bool _ = Value.bool _
  rw [← L2.all_range, rv.bls, List.size_toArray, List.length_map]
theorem cm_allH (hot : L2H.HotC X) : CallM X (.builtin "all") fAll := by
  refine ⟨_, cr_allH hot, fun io M H ws vs z Q rx e q => ?_⟩
  unfold fAll at e
  split at e
  · obtain ⟨v, rfl, r⟩ := p1 rx
    obtain ⟨bs, e1, rfl⟩ := Option.map_eq_some_iff.mp e
    obtain ⟨a, us, rfl, h, r2⟩ := r.lst
    obtain rfl := blsOf_ok r2 e1
    exact ⟨a, bs, rfl, SqL.of h, q _ (.bl _)⟩
  · cases e
theorem hotOf {a : Addr} {oe : Obj} {cls : Value} {d : Option Addr} {pn : List (Addr × Obj)} (hz : Zn cls d oe) (hf : ∃ vs, oe.data = .fields vs) : L2H.HotC (X.suite a ((a, oe) :: pn)) :=
  let ⟨vs, hd⟩ := hf
  ⟨(a, oe), ⟨rfl, vs, hd, hz.2.2 vs hd⟩, List.mem_cons_self⟩
end
section
variable {K : PySem.W.Frag} {mg : Str → Option Value} {ea : EA} {Wx : WX}
def mIterT (m : Mo RV) : Mo Wk := bnd m fun x => bnd (freeze (settle x)) fun w s => match w with
  | .tup ws => some (.ok ⟨ws, none⟩, s)
  | _ => none
theorem ref_iterT {tl : TE} {m : Mo RV} (h : RefE K mg ea Wx tl m) : RefI K mg ea Wx (iTup K tl) (mIterT m) := by
  intro σ H io Fr s S0 r0 s' e R hok hex
  rcases bnd_some e with ⟨x, e1, rfl⟩ | ⟨x, s1, e1, e2⟩
  · exact h σ H io Fr s S0 _ _ e1 _ (fun _ q => by cases q) fun x' q cls d H' io' px => by
      cases q
      exact hex _ rfl cls d H' io' px
  · refine h σ H io Fr s S0 _ _ e1 _ (fun x' q v H1 io1 px => ?_) (fun _ q => by cases q)
    cases q
    obtain ⟨S1, T1, R1⟩ := px.settled
    rcases bnd_some e2 with ⟨z, e3, _⟩ | ⟨w, s3, e3, e4⟩
    · obtain ⟨_, _, _, _, q, _⟩ := freeze_ok S1 R1 e3
      cases q
    · obtain ⟨_, l3, S3, w', q, R3⟩ := freeze_ok S1 R1 e3
      cases q
      have T3 := T1.less l3
      cases w with
      | tup ws =>
        cases e4
        cases R3 with
        | tup h1 h2 h3 => exact ⟨_, rfl, ⟨_, h1.elim (fun z => SqT.of z.1) fun z => .inr z.1⟩, hok _ rfl _ _ _ ⟨S3, T3⟩ (itg_tup h1 ⟨h2, h3⟩)⟩
      | _ => cases e4
end
section
variable {X : Cx} {ea : EA} {Wx : WX} {tg elt iter : Expr} {ifs : List Expr} {scope : Scope} {own : List (Str × Nat)} {pos : Pos} {t : W → Mo Unit} {l : List Nat} {mt : Mo Bool} {me mi : Mo RV}
theorem pee_lcH (hot : L2H.HotC X) (hN : X.N.Nodup) (hi : Pee X ea Wx iter mi) (b : Blk X ea tg elt ifs scope own t l mt me) (hs : ∀ x, foldedSetIterable iter X.env x = pure x := by intro _; rfl) :
    Pee X ea Wx (.ListComp elt [⟨tg, iter, ifs, 0⟩] scope pos) (mLc (own.map (·.2)) (mIterT mi) t mt me) := by
  obtain ⟨tl, p, r⟩ := hi.ex
  exact ⟨_, pe_lcH hot hN p b.ok (fun s H C cl fp => (b.tg s H C cl fp).can) (fun s H C cl fp => (b.ts s H C cl fp).can) (fun s H C cl fp => (b.el s H C cl fp).can) hs,
    ref_lc (ref_iterT r) (ref_gOf b.ne) b.sub (ref_ttOf _) (ref_tOf _)⟩
end
end Z
set_option Elab.async false
set_option linter.all false
set_option maxRecDepth 100000
set_option maxHeartbeats 20000000
namespace Z
open PySem PySem.Spec PyProof.Rows
open L2 hiding XE Takes CX takes_of passes_call passAt MkP PMk ps_raise mk_of ps_try_as ps_try_many pmk_own Takes.imp
open L2N
def top (i : Nat) : Stmt := PySem.Challenge.pw_partkeepers_k04_counts_of_a_book.main.body.getD i (.Pass ⟨0, 0, 0, 0⟩)
abbrev s__law_numbers : Stmt := top 13
abbrev s__law_cell : Stmt := top 12
abbrev s__law_triple : Stmt := top 17
abbrev s__law_is_count : Stmt := top 18
abbrev s_is_count : Stmt := top 7
abbrev s_ascending : Stmt := top 8
abbrev s_Book___init__ : Stmt := inClass (top 9) 0
abbrev s__law_is_int : Stmt := top 11
abbrev s__law_triples : Stmt := top 14
abbrev s_Book___len__ : Stmt := inClass (top 9) 2
abbrev s__law_same_rows : Stmt := top 15
abbrev s_Book___iter__ : Stmt := inClass (top 9) 3
abbrev s__law_same_book : Stmt := top 16
abbrev s_Book___contains__ : Stmt := inClass (top 9) 4
abbrev s__law_looks : Stmt := top 19
abbrev s_law : Stmt := top 20
abbrev s_BadCount___init__ : Stmt := inClass (top 4) 0
def ck0 (K : PySem.W.Frag) : List Bool := [fnB K (He.ga K "_law_numbers") "_law_numbers", decide (PySem.W.keepIn K (.ref (He.ga K "_law_numbers")) = true), fnB K (He.ga K "_law_cell") "_law_cell", decide (PySem.W.keepIn K (.ref (He.ga K "_law_cell")) = true), fnB K (He.ga K "_law_triple") "_law_triple", decide (PySem.W.keepIn K (.ref (He.ga K "_law_triple")) = true), fnB K (He.ga K "_law_is_count") "_law_is_count", decide (PySem.W.keepIn K (.ref (He.ga K "_law_is_count")) = true), fnB K (He.ga K "is_count") "is_count", decide (PySem.W.keepIn K (.ref (He.ga K "is_count")) = true), fnB K (He.ga K "ascending") "ascending", decide (PySem.W.keepIn K (.ref (He.ga K "ascending")) = true), fnBD K (He.ma K (He.ga K "Book") "__init__") "Book.__init__", fnB K (He.ga K "_law_is_int") "_law_is_int", decide (PySem.W.keepIn K (.ref (He.ga K "_law_is_int")) = true), fnB K (He.ga K "_law_triples") "_law_triples", decide (PySem.W.keepIn K (.ref (He.ga K "_law_triples")) = true), fnB K (He.ma K (He.ga K "Book") "__len__") "Book.__len__", decide (PySem.W.keepIn K (.ref (He.ma K (He.ga K "Book") "__len__")) = true), fnB K (He.ga K "_law_same_rows") "_law_same_rows", decide (PySem.W.keepIn K (.ref (He.ga K "_law_same_rows")) = true), fnB K (He.ma K (He.ga K "Book") "__iter__") "Book.__iter__", decide (PySem.W.keepIn K (.ref (He.ma K (He.ga K "Book") "__iter__")) = true), fnB K (He.ga K "_law_same_book") "_law_same_book", decide (PySem.W.keepIn K (.ref (He.ga K "_law_same_book")) = true), fnB K (He.ma K (He.ga K "Book") "__contains__") "Book.__contains__", decide (PySem.W.keepIn K (.ref (He.ma K (He.ga K "Book") "__contains__")) = true), fnB K (He.ga K "_law_looks") "_law_looks", decide (PySem.W.keepIn K (.ref (He.ga K "_law_looks")) = true), fnB K (He.ga K "law") "law", decide (PySem.W.keepIn K (.ref (He.ga K "law")) = true), fnB K (He.ma K (He.ga K "BadCount") "__init__") "BadCount.__init__", decide (PySem.W.keepIn K (.ref (He.ma K (He.ga K "BadCount") "__init__")) = true), intB K "MOST_COPIES" 6, decide (PySem.W.nsIn K mainGlobals "all" = some none), decide (PySem.W.nsIn K mainGlobals "bool" = some none), decide (PySem.W.nsIn K mainGlobals "int" = some none), decide (PySem.W.nsIn K mainGlobals "isinstance" = some none), decide (PySem.W.nsIn K mainGlobals "iter" = some none), decide (PySem.W.nsIn K mainGlobals "len" = some none)]
def ck1 (K : PySem.W.Frag) : List Bool := [decide (PySem.W.nsIn K mainGlobals "list" = some none), decide (PySem.W.nsIn K mainGlobals "range" = some none), decide (PySem.W.nsIn K mainGlobals "tuple" = some none), decide (PySem.W.nsIn K mainGlobals "KeeperError" = some (some (.ref (He.ga K "KeeperError")))), decide (PySem.W.keepIn K (.ref (He.ga K "KeeperError")) = true), decide (PySem.W.nsIn K mainGlobals "BadKey" = some (some (.ref (He.ga K "BadKey")))), decide (PySem.W.keepIn K (.ref (He.ga K "BadKey")) = true), decide (PySem.W.nsIn K mainGlobals "BadCount" = some (some (.ref (He.ga K "BadCount")))), decide (PySem.W.keepIn K (.ref (He.ga K "BadCount")) = true), decide (PySem.W.nsIn K mainGlobals "Book" = some (some (.ref (He.ga K "Book")))), decide (PySem.W.keepIn K (.ref (He.ga K "Book")) = true), decide (PySem.W.plainGet K (He.ga K "Book") Str.empty = true), decide (PySem.W.hasDictIn K (He.ga K "Book") = true), decide (PySem.W.plainOver K (He.ga K "Book") = true), decide (PySem.W.findIn K (.ref (He.ga K "Book")) "__setattr__" = some (some (.builtin "object.__setattr__"))), decide (PySem.W.makesIn K (He.ga K "Book") = true), decide (PySem.W.findIn K (.ref (He.ga K "Book")) "__class__" = some (some (.builtin "object.__class__"))), decide (PySem.W.mroIn K (He.ga K "Book") (.type "object") = some true), decide (PySem.W.kitOne K (.ref (He.ga K "Book")) (.ref (He.ga K "Book")) = some true), decide (PySem.W.specialIn K (.builtin "object.__class__") "__get__" = some (some (.builtin "getset_descriptor.__get__"))), decide (PySem.W.takesIn K (.builtin "object.__class__") = some true), decide (PySem.W.findIn K (.ref (He.ga K "Book")) "rows" = some none), decide (PySem.W.findIn K (.ref (He.ga K "BadCount")) "triple" = some none), decide (PySem.W.kitOne K (.ref (He.ga K "Book")) (.type "bool") = some false), decide (PySem.W.kitOne K (.ref (He.ga K "Book")) (.type "int") = some false), decide (PySem.W.kitOne K (.ref (He.ga K "Book")) (.type "list") = some false), decide (PySem.W.kitOne K (.ref (He.ga K "Book")) (.type "tuple") = some false), decide (PySem.W.findIn K (.ref (He.ga K "KeeperError")) "__getattribute__" = some (some (.builtin "BaseException.__getattribute__"))), decide (PySem.W.findIn K (.ref (He.ga K "KeeperError")) "__getattr__" = some none), decide (PySem.W.subIn K (.ref (He.ga K "KeeperError")) (.type "BaseException") = some true), decide (PySem.W.hasDictIn K (He.ga K "KeeperError") = true), decide (PySem.W.findIn K (.ref (He.ga K "KeeperError")) "__class__" = some (some (.builtin "object.__class__"))), decide (PySem.W.mroIn K (He.ga K "KeeperError") (.type "object") = some true), decide (PySem.W.findIn K (.ref (He.ga K "BadKey")) "__getattribute__" = some (some (.builtin "BaseException.__getattribute__"))), decide (PySem.W.findIn K (.ref (He.ga K "BadKey")) "__getattr__" = some none), decide (PySem.W.subIn K (.ref (He.ga K "BadKey")) (.type "BaseException") = some true), decide (PySem.W.hasDictIn K (He.ga K "BadKey") = true), decide (PySem.W.findIn K (.ref (He.ga K "BadKey")) "__class__" = some (some (.builtin "object.__class__"))), decide (PySem.W.mroIn K (He.ga K "BadKey") (.type "object") = some true), decide (PySem.W.findIn K (.ref (He.ga K "BadCount")) "__getattribute__" = some (some (.builtin "BaseException.__getattribute__")))]
def ck2 (K : PySem.W.Frag) : List Bool := [decide (PySem.W.findIn K (.ref (He.ga K "BadCount")) "__getattr__" = some none), decide (PySem.W.subIn K (.ref (He.ga K "BadCount")) (.type "BaseException") = some true), decide (PySem.W.hasDictIn K (He.ga K "BadCount") = true), decide (PySem.W.findIn K (.ref (He.ga K "BadCount")) "__class__" = some (some (.builtin "object.__class__"))), decide (PySem.W.mroIn K (He.ga K "BadCount") (.type "object") = some true), decide (PySem.W.kitOne K (.ref (He.ga K "BadCount")) (.ref (He.ga K "BadKey")) = some false), decide (PySem.W.kitOne K (.ref (He.ga K "BadKey")) (.ref (He.ga K "BadKey")) = some true), decide (PySem.W.kitOne K (.ref (He.ga K "KeeperError")) (.ref (He.ga K "BadKey")) = some false), decide (PySem.W.kitOne K (.ref (He.ga K "BadCount")) (.ref (He.ga K "KeeperError")) = some true), decide (PySem.W.kitOne K (.ref (He.ga K "BadKey")) (.ref (He.ga K "KeeperError")) = some true), decide (PySem.W.kitOne K (.ref (He.ga K "KeeperError")) (.ref (He.ga K "KeeperError")) = some true), decide (PySem.W.subIn K (.ref (He.ga K "BadCount")) (.type "BaseException") = some true), decide (PySem.W.hasDictIn K (He.ga K "BadCount") = true), decide (PySem.W.typeIn K (.ref (He.ga K "BadCount")) = some (.type "type")), decide (PySem.W.subIn K (.ref (He.ga K "BadCount")) (.ref (He.ga K "BadCount")) = some true), decide (PySem.W.subIn K (.ref (He.ga K "BadKey")) (.ref (He.ga K "BadCount")) = some false), decide (PySem.W.subIn K (.ref (He.ga K "KeeperError")) (.ref (He.ga K "BadCount")) = some false), excB K (He.ga K "BadCount") [.ref (He.ga K "KeeperError"), .type "ValueError", .type "Exception", .type "BaseException", .type "object"] "ValueError.__new__", decide (PySem.W.findIn K (.ref (He.ga K "BadCount")) "__setattr__" = some (some (.builtin "object.__setattr__"))), decide (PySem.W.subIn K (.ref (He.ga K "BadCount")) (.type "BaseException") = some true), decide (PySem.W.typeIn K (.ref (He.ga K "BadCount")) = some (.type "type")), decide (PySem.W.findIn K (.ref (He.ga K "BadCount")) "triple" = some none), decide (PySem.W.findIn K (.ref (He.ga K "BadCount")) "__init__" = some (some (.ref (He.ma K (He.ga K "BadCount") "__init__")))), decide (PySem.W.typeIn K (.ref (He.ma K (He.ga K "BadCount") "__init__")) = some (.type "function")), decide (PySem.W.nsIn K mainGlobals "_law_numbers" = some (some (.ref (He.ga K "_law_numbers")))), decide (PySem.W.nsIn K mainGlobals "_law_cell" = some (some (.ref (He.ga K "_law_cell")))), decide (PySem.W.nsIn K mainGlobals "_law_triple" = some (some (.ref (He.ga K "_law_triple")))), decide (PySem.W.nsIn K mainGlobals "_law_is_count" = some (some (.ref (He.ga K "_law_is_count")))), decide (PySem.W.nsIn K mainGlobals "is_count" = some (some (.ref (He.ga K "is_count")))), decide (PySem.W.nsIn K mainGlobals "ascending" = some (some (.ref (He.ga K "ascending")))), decide (PySem.W.keepIn K (.ref (He.ma K (He.ga K "Book") "__init__")) = true), decide (PySem.W.findIn K (.ref (He.ga K "Book")) "__init__" = some (some (.ref (He.ma K (He.ga K "Book") "__init__")))), decide (PySem.W.isFn K (.ref (He.ma K (He.ga K "Book") "__init__")) = true), decide (PySem.W.nsIn K mainGlobals "_law_is_int" = some (some (.ref (He.ga K "_law_is_int")))), decide (PySem.W.nsIn K mainGlobals "_law_triples" = some (some (.ref (He.ga K "_law_triples")))), decide (PySem.W.findIn K (.ref (He.ga K "Book")) "__len__" = some (some (.ref (He.ma K (He.ga K "Book") "__len__")))), decide (PySem.W.isFn K (.ref (He.ma K (He.ga K "Book") "__len__")) = true), decide (PySem.W.nsIn K mainGlobals "_law_same_rows" = some (some (.ref (He.ga K "_law_same_rows")))), decide (PySem.W.findIn K (.ref (He.ga K "Book")) "__iter__" = some (some (.ref (He.ma K (He.ga K "Book") "__iter__")))), decide (PySem.W.isFn K (.ref (He.ma K (He.ga K "Book") "__iter__")) = true)]
def ck3 (K : PySem.W.Frag) : List Bool := [decide (PySem.W.nsIn K mainGlobals "_law_same_book" = some (some (.ref (He.ga K "_law_same_book")))), decide (PySem.W.findIn K (.ref (He.ga K "Book")) "__contains__" = some (some (.ref (He.ma K (He.ga K "Book") "__contains__")))), decide (PySem.W.isFn K (.ref (He.ma K (He.ga K "Book") "__contains__")) = true), decide (PySem.W.nsIn K mainGlobals "_law_looks" = some (some (.ref (He.ga K "_law_looks")))), decide (PySem.W.nsIn K mainGlobals "law" = some (some (.ref (He.ga K "law"))))]
def chkZ (K : PySem.W.Frag) : Bool := ((ck0 K).all fun b => b) && (((ck1 K).all fun b => b) && (((ck2 K).all fun b => b) && (((ck3 K).all fun b => b))))
def fnZl0 : List (PySem.W.Frag → Addr) := [fun K => He.ga K "_law_numbers", fun K => He.ga K "_law_cell", fun K => He.ga K "_law_triple", fun K => He.ga K "_law_is_count", fun K => He.ga K "is_count", fun K => He.ga K "ascending", fun K => He.ma K (He.ga K "Book") "__init__", fun K => He.ga K "_law_is_int", fun K => He.ga K "_law_triples", fun K => He.ma K (He.ga K "Book") "__len__", fun K => He.ga K "_law_same_rows", fun K => He.ma K (He.ga K "Book") "__iter__", fun K => He.ga K "_law_same_book", fun K => He.ma K (He.ga K "Book") "__contains__", fun K => He.ga K "_law_looks", fun K => He.ga K "law", fun K => He.ma K (He.ga K "BadCount") "__init__"]
def fnZl : List (PySem.W.Frag → Addr) := fnZl0
def vsZl0 : List FnZ := [some ("_law_numbers", "_law_numbers", defArgs s__law_numbers, .stmts (defBody s__law_numbers), defScope s__law_numbers), some ("_law_cell", "_law_cell", defArgs s__law_cell, .stmts (defBody s__law_cell), defScope s__law_cell), some ("_law_triple", "_law_triple", defArgs s__law_triple, .stmts (defBody s__law_triple), defScope s__law_triple), some ("_law_is_count", "_law_is_count", defArgs s__law_is_count, .stmts (defBody s__law_is_count), defScope s__law_is_count), some ("is_count", "is_count", defArgs s_is_count, .stmts (defBody s_is_count), defScope s_is_count), some ("ascending", "ascending", defArgs s_ascending, .stmts (defBody s_ascending), defScope s_ascending), some ("__init__", "Book.__init__", defArgs s_Book___init__, .stmts (defBody s_Book___init__), defScope s_Book___init__), some ("_law_is_int", "_law_is_int", defArgs s__law_is_int, .stmts (defBody s__law_is_int), defScope s__law_is_int), some ("_law_triples", "_law_triples", defArgs s__law_triples, .stmts (defBody s__law_triples), defScope s__law_triples), some ("__len__", "Book.__len__", defArgs s_Book___len__, .stmts (defBody s_Book___len__), defScope s_Book___len__), some ("_law_same_rows", "_law_same_rows", defArgs s__law_same_rows, .stmts (defBody s__law_same_rows), defScope s__law_same_rows), some ("__iter__", "Book.__iter__", defArgs s_Book___iter__, .stmts (defBody s_Book___iter__), defScope s_Book___iter__), some ("_law_same_book", "_law_same_book", defArgs s__law_same_book, .stmts (defBody s__law_same_book), defScope s__law_same_book), some ("__contains__", "Book.__contains__", defArgs s_Book___contains__, .stmts (defBody s_Book___contains__), defScope s_Book___contains__), some ("_law_looks", "_law_looks", defArgs s__law_looks, .stmts (defBody s__law_looks), defScope s__law_looks), some ("law", "law", defArgs s_law, .stmts (defBody s_law), defScope s_law), some ("__init__", "BadCount.__init__", defArgs s_BadCount___init__, .stmts (defBody s_BadCount___init__), defScope s_BadCount___init__)]
def vsZl : List FnZ := vsZl0
def loose0 : List Str := ["_wall", "__name__", "KeeperError", "BadKey", "BadCount", "MOST_COPIES", "is_count", "ascending", "Book", "_law_is_int", "_law_cell", "_law_numbers", "_law_triples", "_law_same_rows", "_law_same_book", "_law_triple", "_law_is_count", "_law_looks"]
def loose : List Str := loose0
abbrev hk : PySem.W.Hook := hookZ 6 chkZ fnZl vsZl
def obZ (x : PySem.W.SharedT) : Bool × List FnZ := obsZ 6 chkZ fnZl (HandSHeadRun.getT x)
theorem runZ (w : World) : HandSHeadRun.RunEq (PySem.W.OpenLaw.row PySem.Challenge.rw_partkeepers_k04_counts_of_a_book) (PySem.W.view (PySem.W.OpenLaw.row PySem.Challenge.rw_partkeepers_k04_counts_of_a_book).prog [20]) hk obZ 60000 loose w := by
  intro os
  kernel_rfl
end Z
set_option Elab.async false
set_option linter.all false
set_option maxRecDepth 100000
set_option maxHeartbeats 20000000
namespace Z
open PySem PySem.Spec PyProof.Rows
open L2 hiding XE Takes CX takes_of passes_call passAt MkP PMk ps_raise mk_of ps_try_as ps_try_many pmk_own Takes.imp
open L2N
def fn_rows : List Str := ["Book"]
def xfn_triple : List Str := ["BadCount"]
def ti_bool : List (CT × Bool) := [(.ty "NoneType", false), (.ty "bool", true), (.ty "int", false), (.ty "str", false), (.ty "bytes", false), (.ty "tuple", false), (.ty "list", false), (.ty "dict", false), (.own "Book", false)]
def ti_int : List (CT × Bool) := [(.ty "NoneType", false), (.ty "bool", true), (.ty "int", true), (.ty "str", false), (.ty "bytes", false), (.ty "tuple", false), (.ty "list", false), (.ty "dict", false), (.own "Book", false)]
def ti_list : List (CT × Bool) := [(.ty "NoneType", false), (.ty "bool", false), (.ty "int", false), (.ty "str", false), (.ty "bytes", false), (.ty "tuple", false), (.ty "list", true), (.ty "dict", false), (.own "Book", false)]
def ti_tuple : List (CT × Bool) := [(.ty "NoneType", false), (.ty "bool", false), (.ty "int", false), (.ty "str", false), (.ty "bytes", false), (.ty "tuple", true), (.ty "list", false), (.ty "dict", false), (.own "Book", false)]
def tx_BadKey : List (CT × Bool) := [(.own "KeeperError", false), (.own "BadKey", true), (.own "BadCount", false)]
def tx_KeeperError : List (CT × Bool) := [(.own "KeeperError", true), (.own "BadKey", true), (.own "BadCount", true)]
def th_BadCount : List (Str × Bool) := [("KeeperError", false), ("BadKey", false), ("BadCount", true)]
structure Tx (P : Program) (K : PySem.W.Frag) (mg : Str → Option Value) where
  C_KeeperError : Addr
  C_BadKey : Addr
  C_BadCount : Addr
  C_Book : Addr
  f__law_numbers : Addr
  f__law_cell : Addr
  f__law_triple : Addr
  f__law_is_count : Addr
  f_is_count : Addr
  f_ascending : Addr
  f_Book___init__ : Addr
  f__law_is_int : Addr
  f__law_triples : Addr
  f_Book___len__ : Addr
  f__law_same_rows : Addr
  f_Book___iter__ : Addr
  f__law_same_book : Addr
  f_Book___contains__ : Addr
  f__law_looks : Addr
  f_law : Addr
  f_BadCount___init__ : Addr
  fd__law_numbers : FuncData
  fd__law_cell : FuncData
  fd__law_triple : FuncData
  fd__law_is_count : FuncData
  fd_is_count : FuncData
  fd_ascending : FuncData
  fd_Book___init__ : FuncData
  fd__law_is_int : FuncData
  fd__law_triples : FuncData
  fd_Book___len__ : FuncData
  fd__law_same_rows : FuncData
  fd_Book___iter__ : FuncData
  fd__law_same_book : FuncData
  fd_Book___contains__ : FuncData
  fd__law_looks : FuncData
  fd_law : FuncData
  fd_BadCount___init__ : FuncData
  E_Book___init__ : Addr
  v_MOST_COPIES : ∃ t, mg "MOST_COPIES" = some (.int 6 t)
  n_all : mg "all" = none
  n_bool : mg "bool" = none
  n_int : mg "int" = none
  n_isinstance : mg "isinstance" = none
  n_iter : mg "iter" = none
  n_len : mg "len" = none
  n_list : mg "list" = none
  n_range : mg "range" = none
  n_tuple : mg "tuple" = none
  c_KeeperError : mg "KeeperError" = some (.ref C_KeeperError)
  kp_KeeperError : PySem.W.keepIn K (.ref C_KeeperError) = true
  c_BadKey : mg "BadKey" = some (.ref C_BadKey)
  kp_BadKey : PySem.W.keepIn K (.ref C_BadKey) = true
  c_BadCount : mg "BadCount" = some (.ref C_BadCount)
  kp_BadCount : PySem.W.keepIn K (.ref C_BadCount) = true
  c_Book : mg "Book" = some (.ref C_Book)
  kp_Book : PySem.W.keepIn K (.ref C_Book) = true
  cl_Book : Cls K C_Book
  mk_Book : PySem.W.makesIn K C_Book = true
  nI_Book : NoAttr K C_Book "rows"
  in_Book : C8.InsC K C_Book
  fd_rows : ClsN K mg fn_rows "rows"
  xf_triple : XfN K mg xfn_triple "triple"
  ist_bool : IsTab K mg (.type "bool") ti_bool
  ist_int : IsTab K mg (.type "int") ti_int
  ist_list : IsTab K mg (.type "list") ti_list
  ist_tuple : IsTab K mg (.type "tuple") ti_tuple
  isx_BadKey : IsTabX K mg (.ref C_BadKey) tx_BadKey
  isx_KeeperError : IsTabX K mg (.ref C_KeeperError) tx_KeeperError
  hd_BadCount : HdTab K mg (.ref C_BadCount) th_BadCount
  ox_BadCount : OexC K C_BadCount
  xn_BadCount : ∀ f ∈ (["triple"] : List Str), PySem.W.findIn K (.ref C_BadCount) f = some none
  xf1_BadCount : PySem.W.findIn K (.ref C_BadCount) "__init__" = some (some (.ref f_BadCount___init__))
  xf2_BadCount : PySem.W.typeIn K (.ref f_BadCount___init__) = some (.type "function")
  F__law_numbers : Fun K "_law_numbers" "_law_numbers" s__law_numbers f__law_numbers fd__law_numbers
  b__law_numbers : Binds K fd__law_numbers ["_law_cell_here", "_law_salt", "_law_limits"] []
  g__law_numbers : mg "_law_numbers" = some (.ref f__law_numbers)
  F__law_cell : Fun K "_law_cell" "_law_cell" s__law_cell f__law_cell fd__law_cell
  b__law_cell : Binds K fd__law_cell ["_law_script", "_law_k"] []
  g__law_cell : mg "_law_cell" = some (.ref f__law_cell)
  F__law_triple : Fun K "_law_triple" "_law_triple" s__law_triple f__law_triple fd__law_triple
  b__law_triple : Binds K fd__law_triple ["_law_loose", "_law_draws", "_law_far"] []
  g__law_triple : mg "_law_triple" = some (.ref f__law_triple)
  F__law_is_count : Fun K "_law_is_count" "_law_is_count" s__law_is_count f__law_is_count fd__law_is_count
  b__law_is_count : Binds K fd__law_is_count ["_law_triple_here"] []
  g__law_is_count : mg "_law_is_count" = some (.ref f__law_is_count)
  F_is_count : Fun K "is_count" "is_count" s_is_count f_is_count fd_is_count
  b_is_count : Binds K fd_is_count ["triple"] []
  g_is_count : mg "is_count" = some (.ref f_is_count)
  F_ascending : Fun K "ascending" "ascending" s_ascending f_ascending fd_ascending
  b_ascending : Binds K fd_ascending ["counts"] []
  g_ascending : mg "ascending" = some (.ref f_ascending)
  F_Book___init__ : FunE K "__init__" "Book.__init__" s_Book___init__ f_Book___init__ fd_Book___init__ E_Book___init__
  df_Book___init__ : Dfl K mg [.tup []] [.ref E_Book___init__]
  b_Book___init__ : Binds K fd_Book___init__ ["self", "counts"] []
  bd_Book___init__ : Binds K fd_Book___init__ ["self", "counts"] [.ref E_Book___init__]
  mt_Book___init__ : Meth K C_Book "__init__" f_Book___init__
  F__law_is_int : Fun K "_law_is_int" "_law_is_int" s__law_is_int f__law_is_int fd__law_is_int
  b__law_is_int : Binds K fd__law_is_int ["_law_given"] []
  g__law_is_int : mg "_law_is_int" = some (.ref f__law_is_int)
  F__law_triples : Fun K "_law_triples" "_law_triples" s__law_triples f__law_triples fd__law_triples
  b__law_triples : Binds K fd__law_triples ["_law_many"] []
  g__law_triples : mg "_law_triples" = some (.ref f__law_triples)
  F_Book___len__ : Fun K "__len__" "Book.__len__" s_Book___len__ f_Book___len__ fd_Book___len__
  b_Book___len__ : Binds K fd_Book___len__ ["self"] []
  mt_Book___len__ : Meth K C_Book "__len__" f_Book___len__
  F__law_same_rows : Fun K "_law_same_rows" "_law_same_rows" s__law_same_rows f__law_same_rows fd__law_same_rows
  b__law_same_rows : Binds K fd__law_same_rows ["_law_told", "_law_due"] []
  g__law_same_rows : mg "_law_same_rows" = some (.ref f__law_same_rows)
  F_Book___iter__ : Fun K "__iter__" "Book.__iter__" s_Book___iter__ f_Book___iter__ fd_Book___iter__
  b_Book___iter__ : Binds K fd_Book___iter__ ["self"] []
  mt_Book___iter__ : Meth K C_Book "__iter__" f_Book___iter__
  F__law_same_book : Fun K "_law_same_book" "_law_same_book" s__law_same_book f__law_same_book fd__law_same_book
  b__law_same_book : Binds K fd__law_same_book ["_law_book", "_law_due"] []
  g__law_same_book : mg "_law_same_book" = some (.ref f__law_same_book)
  F_Book___contains__ : Fun K "__contains__" "Book.__contains__" s_Book___contains__ f_Book___contains__ fd_Book___contains__
  b_Book___contains__ : Binds K fd_Book___contains__ ["self", "x"] []
  mt_Book___contains__ : Meth K C_Book "__contains__" f_Book___contains__
  F__law_looks : Fun K "_law_looks" "_law_looks" s__law_looks f__law_looks fd__law_looks
  b__law_looks : Binds K fd__law_looks ["_law_book", "_law_due", "_law_far"] []
  g__law_looks : mg "_law_looks" = some (.ref f__law_looks)
  F_law : Fun K "law" "law" s_law f_law fd_law
  b_law : Binds K fd_law ["_law_script"] []
  F_BadCount___init__ : Fun K "__init__" "BadCount.__init__" s_BadCount___init__ f_BadCount___init__ fd_BadCount___init__
  b_BadCount___init__ : Binds K fd_BadCount___init__ ["self", "triple"] []
section
variable {P : Program} {w : World} {K : PySem.W.Frag} {mg : Str → Option Value} {base : Heap}
theorem sc_BadCount___init__ : FnScope ["self", "triple"] ["self", "triple"] (defScope s_BadCount___init__) := ⟨rfl, rfl, rfl, by decide +kernel, rfl, by decide +kernel, by decide +kernel⟩
theorem xok_BadCount (T : Tx P K mg) : FnOk P w K mg base (L2N.CX P w) 1 T.f_BadCount___init__ T.fd_BadCount___init__ ["self", "triple"] (spXI K ["triple"]) := xi1 T.F_BadCount___init__ sc_BadCount___init__ fun cdv A outer s H E hr => pss_one (ps_ost (pv 0) (pv 1) rfl)
theorem sc__law_numbers : FnScope ["_law_cell_here", "_law_salt", "_law_limits", "_law_rest", "_law_found", "_law_limit"] ["_law_cell_here", "_law_salt", "_law_limits"] (defScope s__law_numbers) := ⟨rfl, rfl, rfl, by decide +kernel, rfl, by decide +kernel, by decide +kernel⟩
noncomputable def b__law_numbers : Mo Fl := mSeq (mAsg 3 (mName 0)) (mSeq (mAsg 4 (mLst mNil)) (mSeq (mFor (mIter (mName 2)) (tgN 5) (mIf (mB (mBin fLt (mName 0) (mBin fPow (mC (.int 10)) (mC (.int 18))))) (mSeq (mAsg 3 (mBin fMod (mCB fInt1 (mCons (mBin fAdd (mBin fAdd (mBin fMul (mName 3) (mC (.int 75))) (mC (.int 74))) (mName 1)) mNil)) (mC (.int 65537)))) (mDrop (mMut .lst fAppend (mName 4) (mCons (mBin fMod (mCB fInt1 (mCons (mBin fDiv (mName 3) (mC (.int 7))) mNil)) (mName 5)) mNil)))) (mSeq (mDrop (mMut .lst fAppend (mName 4) (mCons (mBin fMod (mCB fInt1 (mCons (mName 3) mNil)) (mName 5)) mNil))) (mAsg 3 (mBin fDiv (mName 3) (mName 5)))))) (mRet (mName 4))))
noncomputable def m__law_numbers : Fn := fnM 6 b__law_numbers
theorem ok__law_numbers (T : Tx P K mg) : FnM P w K mg base 1 T.f__law_numbers T.fd__law_numbers ["_law_cell_here", "_law_salt", "_law_limits"] m__law_numbers := have sc := sc__law_numbers; defM2 T.F__law_numbers sc rfl fun cdv A outer s H E hr hu tk pa => pess_cons (pes_set 3 sc.nd (pee_name 0)) (pess_cons (pes_set 4 sc.nd (pee_lst pea_nil)) (pess_cons (pes_for pa (pei_seq (pee_name 2)) (peg_name 5 sc.nd) (pess_one (pes_if (pet_cmp om_lt (pee_name 0) (pee_op om_pow pee_int pee_int)) (pess_cons (pes_set 3 sc.nd (pee_op om_mod (pee_ct cm_int T.n_int (pea_cons (pee_op om_add (pee_op om_add (pee_op om_mul (pee_name 3) pee_int) pee_int) (pee_name 1)) pea_nil)) pee_int)) (pess_one (pes_expr (pee_mut (k := .lst) PySem.F.plainAttrs_list PySem.F.slot_list_append PySem.F.type_list_append mt_append mu_append (pee_name 4) (pea_cons (pee_op om_mod (pee_ct cm_int T.n_int (pea_cons (pee_op om_div (pee_name 3) pee_int) pea_nil)) (pee_name 5)) pea_nil))))) (pess_cons (pes_expr (pee_mut (k := .lst) PySem.F.plainAttrs_list PySem.F.slot_list_append PySem.F.type_list_append mt_append mu_append (pee_name 4) (pea_cons (pee_op om_mod (pee_ct cm_int T.n_int (pea_cons (pee_name 3) pea_nil)) (pee_name 5)) pea_nil))) (pess_one (pes_set 3 sc.nd (pee_op om_div (pee_name 3) (pee_name 5)))))))) (pess_one (pes_ret (pee_name 4)))))
theorem sc__law_cell : FnScope ["_law_script", "_law_k"] ["_law_script", "_law_k"] (defScope s__law_cell) := ⟨rfl, rfl, rfl, by decide +kernel, rfl, by decide +kernel, by decide +kernel⟩
noncomputable def b__law_cell : Mo Fl := mSeq (mIf (mB (mBin fLt (mName 1) (mCB fLen (mCons (mName 0) mNil)))) (mRet (mBin fIx (mName 0) (mName 1))) mNext) (mRet (mC (.int 0)))
noncomputable def m__law_cell : Fn := fnM 2 b__law_cell
theorem ok__law_cell (T : Tx P K mg) : FnM P w K mg base 1 T.f__law_cell T.fd__law_cell ["_law_script", "_law_k"] m__law_cell := have sc := sc__law_cell; defM2 T.F__law_cell sc rfl fun cdv A outer s H E hr hu tk pa => pess_cons (pes_if (pet_cmp om_lt (pee_name 1) (pee_cb cm_len T.n_len (pea_cons (pee_name 0) pea_nil))) (pess_one (pes_ret (pee_ix (xm_ix (hu1 hu)) (pee_name 0) (pee_name 1)))) pess_nil) (pess_one (pes_ret pee_int))
theorem sc__law_triple : FnScope ["_law_loose", "_law_draws", "_law_far", "_law_left", "_law_found", "_law_draw"] ["_law_loose", "_law_draws", "_law_far"] (defScope s__law_triple) := ⟨rfl, rfl, rfl, by decide +kernel, rfl, by decide +kernel, by decide +kernel⟩
noncomputable def b__law_triple : Mo Fl := mSeq (mIf (mTru (mName 0)) (mRet (mCB fTuple (mCons (mLc [5] (mIter (mName 1)) (tgN 5) mYes (mBin fIx (mLst (mCons (mC (.int 0)) (mCons (mC (.int 1)) (mCons (mC (.int 2)) (mCons (mC (.int 3)) (mCons (mC (.int 4)) (mCons (mC (.int 5)) (mCons (mBin fAdd (mC (.int 6)) (mName 2)) (mCons (mBin fSub (mUn fNeg (mC (.int 1))) (mName 2)) (mCons (mC (.int 6)) mNil)))))))))) (mName 5))) mNil))) mNext) (mSeq (mAsg 3 (mUn fLr1 (mC (.int 6)))) (mSeq (mAsg 4 (mLst mNil)) (mSeq (mFor (mIter (mName 1)) (tgN 5) (mDrop (mMut .lst fAppend (mName 4) (mCons (mMut .lst fPop (mName 3) (mCons (mBin fMod (mCB fInt1 (mCons (mName 5) mNil)) (mCB fLen (mCons (mName 3) mNil))) mNil)) mNil)))) (mRet (mCB fTuple (mCons (mName 4) mNil))))))
noncomputable def m__law_triple : Fn := fnM 6 b__law_triple
theorem ok__law_triple (T : Tx P K mg) : FnM P w K mg base 1 T.f__law_triple T.fd__law_triple ["_law_loose", "_law_draws", "_law_far"] m__law_triple := have sc := sc__law_triple; defM2 T.F__law_triple sc rfl fun cdv A outer s H E hr hu tk pa => pess_cons (pes_if (pet_tru (pee_name 0)) (pess_one (pes_ret (pee_ct cm_tuple T.n_tuple (pea_cons (pee_lc sc.nd (own := [("_law_draw", 5)]) (l := [5]) (pei_seq (pee_name 1)) ⟨⟨rfl, by first | decide +kernel | (dsimp only [cxOf, envOfC, compEnvC, relabel]; decide +kernel) | exact of_decide_eq_true (by kernel_rfl), by first | decide +kernel | (dsimp only [cxOf, envOfC, compEnvC, relabel]; decide +kernel) | exact of_decide_eq_true (by kernel_rfl), by first | decide +kernel | (dsimp only [cxOf, envOfC, compEnvC, relabel]; decide +kernel) | exact of_decide_eq_true (by kernel_rfl), by first | decide +kernel | (dsimp only [cxOf, envOfC, compEnvC, relabel]; decide +kernel) | exact of_decide_eq_true (by kernel_rfl)⟩, (tgN_ne _), by decide, fun _ _ _ _ _ => by exact peg_name 5 sc.nd, fun _ _ _ _ _ => by exact pets_nil, fun _ _ _ _ _ => by exact pee_ix (xm_ix (hu1 hu)) (pee_lst (pea_cons pee_int (pea_cons pee_int (pea_cons pee_int (pea_cons pee_int (pea_cons pee_int (pea_cons pee_int (pea_cons (pee_op om_add pee_int (pee_name 2)) (pea_cons (pee_op om_sub (pee_un um_neg pee_int) (pee_name 2)) (pea_cons pee_int pea_nil)))))))))) (pee_name 5)⟩) pea_nil)))) pess_nil) (pess_cons (pes_set 3 sc.nd (pee_lr1 T.n_list T.n_range pee_int)) (pess_cons (pes_set 4 sc.nd (pee_lst pea_nil)) (pess_cons (pes_for pa (pei_seq (pee_name 1)) (peg_name 5 sc.nd) (pess_one (pes_expr (pee_mut (k := .lst) PySem.F.plainAttrs_list PySem.F.slot_list_append PySem.F.type_list_append mt_append mu_append (pee_name 4) (pea_cons (pee_mut (k := .lst) PySem.F.plainAttrs_list PySem.F.slot_list_pop PySem.F.type_list_pop mt_popAt mu_pop (pee_name 3) (pea_cons (pee_op om_mod (pee_ct cm_int T.n_int (pea_cons (pee_name 5) pea_nil)) (pee_cb cm_len T.n_len (pea_cons (pee_name 3) pea_nil))) pea_nil)) pea_nil))))) (pess_one (pes_ret (pee_ct cm_tuple T.n_tuple (pea_cons (pee_name 4) pea_nil)))))))
theorem sc__law_is_count : FnScope ["_law_triple_here", "_law_copy", "_law_sender", "_law_taker", "_law_part"] ["_law_triple_here"] (defScope s__law_is_count) := ⟨rfl, rfl, rfl, by decide +kernel, rfl, by decide +kernel, by decide +kernel⟩
noncomputable def b__law_is_count : Mo Fl := mSeq (mAsgT (tgT 3 (tgsCons (tgN 1) (tgsCons (tgN 2) (tgsCons (tgN 3) tgsNil)))) (mName 0)) (mSeq (mIf (mOr (mB (mBin fEqD (mName 1) (mName 2))) (mOr (mB (mBin fEqD (mName 1) (mName 3))) (mB (mBin fEqD (mName 2) (mName 3))))) (mRet (mC (.bl false))) mNext) (mRet (mCB fAll (mCons (mLc [4] (mIter (mName 0)) (tgN 4) mYes (mChain fLe fLt (mC (.int 0)) (mName 4) (mC (.int 6)))) mNil))))
noncomputable def m__law_is_count : Fn := fnM 5 b__law_is_count
theorem ok__law_is_count (T : Tx P K mg) : FnM P w K mg base 1 T.f__law_is_count T.fd__law_is_count ["_law_triple_here"] m__law_is_count := have sc := sc__law_is_count; defM2 T.F__law_is_count sc rfl fun cdv A outer s H E hr hu tk pa => pess_cons (pes_asg (pee_name 0) (peg_tup (pegs_cons (peg_name 1 sc.nd) (pegs_cons (peg_name 2 sc.nd) (pegs_cons (peg_name 3 sc.nd) pegs_nil))))) (pess_cons (pes_if ((pew_or (pet_cmp (om_eqD (hu64 hu)) (pee_name 1) (pee_name 2)) (pew_or (pet_cmp (om_eqD (hu64 hu)) (pee_name 1) (pee_name 3)) (pew_or1 (pet_cmp (om_eqD (hu64 hu)) (pee_name 2) (pee_name 3))))).pt) (pess_one (pes_ret pee_bl)) pess_nil) (pess_one (pes_ret (pee_cb cm_all T.n_all (pea_cons (pee_lc sc.nd (own := [("_law_part", 4)]) (l := [4]) (pei_seq (pee_name 0)) ⟨⟨rfl, by first | decide +kernel | (dsimp only [cxOf, envOfC, compEnvC, relabel]; decide +kernel) | exact of_decide_eq_true (by kernel_rfl), by first | decide +kernel | (dsimp only [cxOf, envOfC, compEnvC, relabel]; decide +kernel) | exact of_decide_eq_true (by kernel_rfl), by first | decide +kernel | (dsimp only [cxOf, envOfC, compEnvC, relabel]; decide +kernel) | exact of_decide_eq_true (by kernel_rfl), by first | decide +kernel | (dsimp only [cxOf, envOfC, compEnvC, relabel]; decide +kernel) | exact of_decide_eq_true (by kernel_rfl)⟩, (tgN_ne _), by decide, fun _ _ _ _ _ => by exact peg_name 4 sc.nd, fun _ _ _ _ _ => by exact pets_nil, fun _ _ _ _ _ => by exact pee_chain om_le om_lt pee_int (pee_name 4) pee_int⟩) pea_nil)))))
theorem sc_is_count : FnScope ["triple", "copy", "sender", "taker", "number"] ["triple"] (defScope s_is_count) := ⟨rfl, rfl, rfl, by decide +kernel, rfl, by decide +kernel, by decide +kernel⟩
noncomputable def b_is_count : Mo Fl := mSeq (mIf (mB (mBin fNeD (mCB fLen (mCons (mName 0) mNil)) (mC (.int 3)))) (mRet (mC (.bl false))) mNext) (mSeq (mAsgT (tgT 3 (tgsCons (tgN 1) (tgsCons (tgN 2) (tgsCons (tgN 3) tgsNil)))) (mName 0)) (mSeq (mIf (mOr (mB (mBin fEqD (mName 1) (mName 2))) (mOr (mB (mBin fEqD (mName 1) (mName 3))) (mB (mBin fEqD (mName 2) (mName 3))))) (mRet (mC (.bl false))) mNext) (mRet (mCB fAll (mCons (mLc [4] (mIter (mName 0)) (tgN 4) mYes (mChain fLe fLt (mC (.int 0)) (mName 4) (mC (.int 6)))) mNil)))))
noncomputable def m_is_count : Fn := fnM 5 b_is_count
theorem ok_is_count (T : Tx P K mg) : FnM P w K mg base 1 T.f_is_count T.fd_is_count ["triple"] m_is_count := have sc := sc_is_count; defM2 T.F_is_count sc rfl fun cdv A outer s H E hr hu tk pa => pess_cons (pes_if (pet_cmp (om_neD (hu64 hu)) (pee_cb cm_len T.n_len (pea_cons (pee_name 0) pea_nil)) pee_int) (pess_one (pes_ret pee_bl)) pess_nil) (pess_cons (pes_asg (pee_name 0) (peg_tup (pegs_cons (peg_name 1 sc.nd) (pegs_cons (peg_name 2 sc.nd) (pegs_cons (peg_name 3 sc.nd) pegs_nil))))) (pess_cons (pes_if ((pew_or (pet_cmp (om_eqD (hu64 hu)) (pee_name 1) (pee_name 2)) (pew_or (pet_cmp (om_eqD (hu64 hu)) (pee_name 1) (pee_name 3)) (pew_or1 (pet_cmp (om_eqD (hu64 hu)) (pee_name 2) (pee_name 3))))).pt) (pess_one (pes_ret pee_bl)) pess_nil) (pess_one (pes_ret (pee_cb cm_all T.n_all (pea_cons (pee_lc sc.nd (own := [("number", 4)]) (l := [4]) (pei_seq (pee_name 0)) ⟨⟨rfl, by first | decide +kernel | (dsimp only [cxOf, envOfC, compEnvC, relabel]; decide +kernel) | exact of_decide_eq_true (by kernel_rfl), by first | decide +kernel | (dsimp only [cxOf, envOfC, compEnvC, relabel]; decide +kernel) | exact of_decide_eq_true (by kernel_rfl), by first | decide +kernel | (dsimp only [cxOf, envOfC, compEnvC, relabel]; decide +kernel) | exact of_decide_eq_true (by kernel_rfl), by first | decide +kernel | (dsimp only [cxOf, envOfC, compEnvC, relabel]; decide +kernel) | exact of_decide_eq_true (by kernel_rfl)⟩, (tgN_ne _), by decide, fun _ _ _ _ _ => by exact peg_name 4 sc.nd, fun _ _ _ _ _ => by exact pets_nil, fun _ _ _ _ _ => by exact pee_chain om_le om_lt pee_int (pee_name 4) (pee_gint T.v_MOST_COPIES)⟩) pea_nil))))))
theorem sc_ascending : FnScope ["counts", "given", "copies", "triple", "copy", "sender", "taker"] ["counts"] (defScope s_ascending) := ⟨rfl, rfl, rfl, by decide +kernel, rfl, by decide +kernel, by decide +kernel⟩
noncomputable def b_ascending : Mo Fl := mSeq (mAsg 1 (mDcF [3] [3] (mIter (mName 0)) (tgN 3) mYes (putD (mName 3) (mC (.bl true))))) (mSeq (mAsg 2 (mUn fLr1 (mC (.int 6)))) (mRet (mDcF [4, 5, 6] [4] (mIter (mName 2)) (tgN 4) mYes (clM [5] (mIter (mName 2)) (tgN 5) mYes (clM [6] (mIter (mName 2)) (tgN 6) (mB (mBin (fIn false) (mTup (mCons (mName 4) (mCons (mName 5) (mCons (mName 6) mNil)))) (mName 1))) (putD (mTup (mCons (mName 4) (mCons (mName 5) (mCons (mName 6) mNil)))) (mC (.bl true))))))))
noncomputable def m_ascending : Fn := fnM 7 b_ascending
theorem ok_ascending (T : Tx P K mg) : FnM P w K mg base 1 T.f_ascending T.fd_ascending ["counts"] m_ascending := have sc := sc_ascending; defM2 T.F_ascending sc rfl fun cdv A outer s H E hr hu tk pa => pess_cons (pes_set 1 sc.nd (pee_dc (own := [("triple", 3)]) (l := [3]) (Nat.lt_of_succ_lt (hu1 hu)) sc.nd (pei_seq (pee_name 0)) ⟨⟨rfl, by first | decide +kernel | (dsimp only [cxOf, envOfC, compEnvC, relabel]; decide +kernel) | exact of_decide_eq_true (by kernel_rfl), by first | decide +kernel | (dsimp only [cxOf, envOfC, compEnvC, relabel]; decide +kernel) | exact of_decide_eq_true (by kernel_rfl), by first | decide +kernel | (dsimp only [cxOf, envOfC, compEnvC, relabel]; decide +kernel) | exact of_decide_eq_true (by kernel_rfl), by first | decide +kernel | (dsimp only [cxOf, envOfC, compEnvC, relabel]; decide +kernel) | exact of_decide_eq_true (by kernel_rfl)⟩, (tgN_ne _), by decide, fun _ _ _ _ _ => by exact peg_name 3 sc.nd, fun _ _ _ _ _ => by exact pets_nil, fun _ _ _ _ _ => by exact pee_name 3, fun _ _ _ _ _ => by exact pee_bl⟩)) (pess_cons (pes_set 2 sc.nd (pee_lr1 T.n_list T.n_range (pee_gint T.v_MOST_COPIES))) (pess_one (pes_ret (pee_dc3 (own := [("copy", 4), ("sender", 5), ("taker", 6)]) (v0 := [4]) (v1 := [5]) (v2 := [6]) (l := [4]) (l1 := [5]) (l2 := [6]) (Nat.lt_of_succ_lt (hu1 hu)) sc.nd (pei_seq (pee_name 2)) ⟨⟨rfl, by first | decide +kernel | (dsimp only [cxOf, envOfC, compEnvC, relabel]; decide +kernel) | exact of_decide_eq_true (by kernel_rfl), by first | decide +kernel | (dsimp only [cxOf, envOfC, compEnvC, relabel]; decide +kernel) | exact of_decide_eq_true (by kernel_rfl), by first | decide +kernel | (dsimp only [cxOf, envOfC, compEnvC, relabel]; decide +kernel) | exact of_decide_eq_true (by kernel_rfl), by first | decide +kernel | (dsimp only [cxOf, envOfC, compEnvC, relabel]; decide +kernel) | exact of_decide_eq_true (by kernel_rfl)⟩, (tgN_ne _), (tgN_ne _), (tgN_ne _), by decide, by decide, by decide, by decide, fun _ _ _ _ _ => by exact peg_name 4 sc.nd, fun _ _ _ _ _ => by exact pets_nil, fun _ _ _ _ _ => by exact pei_seq (pee_name 2), fun _ _ _ _ _ => by exact peg_name 5 sc.nd, fun _ _ _ _ _ => by exact pets_nil, fun _ _ _ _ _ => by exact pei_seq (pee_name 2), fun _ _ _ _ _ => by exact peg_name 6 sc.nd, fun _ _ _ _ _ => by exact pets_one (pet_cmp (om_in (hu65 hu)) (pee_tup (pea_cons (pee_name 4) (pea_cons (pee_name 5) (pea_cons (pee_name 6) pea_nil)))) (pee_name 1)), fun _ _ _ _ _ => by exact pee_tup (pea_cons (pee_name 4) (pea_cons (pee_name 5) (pea_cons (pee_name 6) pea_nil))), fun _ _ _ _ _ => by exact pee_bl⟩))))
theorem sc_Book___init__ : FnScope ["self", "counts", "triple"] ["self", "counts"] (defScope s_Book___init__) := ⟨rfl, rfl, rfl, by decide +kernel, rfl, by decide +kernel, by decide +kernel⟩
noncomputable def b_Book___init__ : Mo Fl := mSeq (mFor (mIter (mName 1)) (tgN 2) (mIf (mNot (mB (mCall 1 m_is_count (mCons (mName 2) mNil)))) (mRaise "BadCount" ["triple"] (mCons (mName 2) mNil)) mNext)) (mSetF fn_rows "rows" (mName 0) (mCall 1 m_ascending (mCons (mName 1) mNil)))
noncomputable def m_Book___init__ : Fn := fnM 3 b_Book___init__
theorem ok_Book___init__ (T : Tx P K mg) : FnM P w K mg base 3 T.f_Book___init__ T.fd_Book___init__ ["self", "counts"] m_Book___init__ := have sc := sc_Book___init__; defD2 T.F_Book___init__ sc rfl fun cdv A outer s H E hr hu tk pa => pess_cons (pes_for pa (pei_seq (pee_name 1)) (peg_name 2 sc.nd) (pess_one (pes_if (pet_not (pet_val (pee_callN rfl (ok_is_count T) (hr.mono (by decide)) T.g_is_count T.F_is_count.kp T.b_is_count tk (pea_cons (pee_name 2) pea_nil)))) (pess_one (pes_raise (fs := ["triple"]) T.c_BadCount T.ox_BadCount T.xn_BadCount (by decide) T.xf1_BadCount T.xf2_BadCount (xok_BadCount T) (hr.mono (by decide)) T.b_BadCount___init__ tk (pea_cons (pee_name 2) pea_nil))) pess_nil))) (pess_one (pes_fld T.fd_rows (pee_name 0) (pee_callN rfl (ok_ascending T) (hr.mono (by decide)) T.g_ascending T.F_ascending.kp T.b_ascending tk (pea_cons (pee_name 1) pea_nil))))
theorem sc__law_is_int : FnScope ["_law_given"] ["_law_given"] (defScope s__law_is_int) := ⟨rfl, rfl, rfl, by decide +kernel, rfl, by decide +kernel, by decide +kernel⟩
noncomputable def b__law_is_int : Mo Fl := mRet (mAndV (mIs ti_int (mName 0)) (mNotV (mIs ti_bool (mName 0))))
noncomputable def m__law_is_int : Fn := fnM 1 b__law_is_int
theorem okw__law_is_int (T : Tx P K mg) : FnW P w K mg base 1 T.f__law_is_int T.fd__law_is_int ["_law_given"] m__law_is_int := have sc := sc__law_is_int; defW2 T.F__law_is_int sc rfl fun cdv A outer s H E hr hu tk pa => pess_one (pes_ret (pee_and (pee_is T.ist_int (ClsV.ty _) (fun _ => by exact pe_bltn rfl T.n_int (by decide +kernel) rfl) T.n_isinstance (pee_name 0)) (pee_one (pee_not (pee_is T.ist_bool (ClsV.ty _) (fun _ => by exact pe_bltn rfl T.n_bool (by decide +kernel) rfl) T.n_isinstance (pee_name 0))))))
theorem ok__law_is_int (T : Tx P K mg) : FnM P w K mg base 1 T.f__law_is_int T.fd__law_is_int ["_law_given"] m__law_is_int := (okw__law_is_int T).toM
theorem sc__law_triples : FnScope ["_law_many", "_law_found", "_law_copy", "_law_sender", "_law_taker"] ["_law_many"] (defScope s__law_triples) := ⟨rfl, rfl, rfl, by decide +kernel, rfl, by decide +kernel, by decide +kernel⟩
noncomputable def b__law_triples : Mo Fl := mSeq (mAsg 1 (mLst mNil)) (mSeq (mFor (mRng1 (mCons (mName 0) mNil)) (tgN 2) (mFor (mRng1 (mCons (mName 0) mNil)) (tgN 3) (mFor (mRng1 (mCons (mName 0) mNil)) (tgN 4) (mIf (mAnd (mB (mBin fNeD (mName 2) (mName 3))) (mAnd (mB (mBin fNeD (mName 2) (mName 4))) (mB (mBin fNeD (mName 3) (mName 4))))) (mDrop (mMut .lst fAppend (mName 1) (mCons (mTup (mCons (mName 2) (mCons (mName 3) (mCons (mName 4) mNil)))) mNil))) mNext)))) (mRet (mName 1)))
noncomputable def m__law_triples : Fn := fnM 5 b__law_triples
theorem ok__law_triples (T : Tx P K mg) : FnM P w K mg base 1 T.f__law_triples T.fd__law_triples ["_law_many"] m__law_triples := have sc := sc__law_triples; defM2 T.F__law_triples sc rfl fun cdv A outer s H E hr hu tk pa => pess_cons (pes_set 1 sc.nd (pee_lst pea_nil)) (pess_cons (pes_for pa (pei_rng1 T.n_range (pea_cons (pee_name 0) pea_nil)) (peg_name 2 sc.nd) (pess_one (pes_for pa (pei_rng1 T.n_range (pea_cons (pee_name 0) pea_nil)) (peg_name 3 sc.nd) (pess_one (pes_for pa (pei_rng1 T.n_range (pea_cons (pee_name 0) pea_nil)) (peg_name 4 sc.nd) (pess_one (pes_if ((pew_and (pet_cmp (om_neD (hu64 hu)) (pee_name 2) (pee_name 3)) (pew_and (pet_cmp (om_neD (hu64 hu)) (pee_name 2) (pee_name 4)) (pew_and1 (pet_cmp (om_neD (hu64 hu)) (pee_name 3) (pee_name 4))))).pt) (pess_one (pes_expr (pee_mut (k := .lst) PySem.F.plainAttrs_list PySem.F.slot_list_append PySem.F.type_list_append mt_append mu_append (pee_name 1) (pea_cons (pee_tup (pea_cons (pee_name 2) (pea_cons (pee_name 3) (pea_cons (pee_name 4) pea_nil)))) pea_nil)))) pess_nil))))))) (pess_one (pes_ret (pee_name 1))))
theorem sc_Book___len__ : FnScope ["self"] ["self"] (defScope s_Book___len__) := ⟨rfl, rfl, rfl, by decide +kernel, rfl, by decide +kernel, by decide +kernel⟩
noncomputable def b_Book___len__ : Mo Fl := mRet (mCB fLenD (mCons (mUn (fFld fn_rows "rows") (mName 0)) mNil))
noncomputable def m_Book___len__ : Fn := fnM 1 b_Book___len__
theorem ok_Book___len__ (T : Tx P K mg) : FnM P w K mg base 1 T.f_Book___len__ T.fd_Book___len__ ["self"] m_Book___len__ := have sc := sc_Book___len__; defM2 T.F_Book___len__ sc rfl fun cdv A outer s H E hr hu tk pa => pess_one (pes_ret (pee_cb cm_lenD T.n_len (pea_cons (pee_fld T.fd_rows (pee_name 0)) pea_nil)))
theorem sc__law_same_rows : FnScope ["_law_told", "_law_due", "_law_k", "_law_part"] ["_law_told", "_law_due"] (defScope s__law_same_rows) := ⟨rfl, rfl, rfl, by decide +kernel, rfl, by decide +kernel, by decide +kernel⟩
noncomputable def b__law_same_rows : Mo Fl := mSeq (mIf (mOr (mNot (mB (mIs ti_list (mName 0)))) (mB (mBin fNeD (mCB fLen (mCons (mName 0) mNil)) (mCB fLen (mCons (mName 1) mNil))))) (mRet (mC (.bl false))) mNext) (mSeq (mFor (mRng1 (mCons (mCB fLen (mCons (mName 1) mNil)) mNil)) (tgN 2) (mSeq (mIf (mOr (mNot (mB (mIs ti_tuple (mBin fIx (mName 0) (mName 2))))) (mB (mBin fNeD (mBin fIx (mName 0) (mName 2)) (mBin fIx (mName 1) (mName 2))))) (mRet (mC (.bl false))) mNext) (mIf (mNot (mB (mCB fAll (mCons (mLc [3] (mIter (mBin fIx (mName 0) (mName 2))) (tgN 3) mYes (mCall 1 m__law_is_int (mCons (mName 3) mNil))) mNil)))) (mRet (mC (.bl false))) mNext))) (mRet (mC (.bl true))))
noncomputable def m__law_same_rows : Fn := fnM 4 b__law_same_rows
theorem ok__law_same_rows (T : Tx P K mg) : FnM P w K mg base 2 T.f__law_same_rows T.fd__law_same_rows ["_law_told", "_law_due"] m__law_same_rows := have sc := sc__law_same_rows; defM2 T.F__law_same_rows sc rfl fun cdv A outer s H E hr hu tk pa => pess_cons (pes_if ((pew_or (pet_not (pet_val (pee_is T.ist_list (ClsV.ty _) (fun _ => by exact pe_bltn rfl T.n_list (by decide +kernel) rfl) T.n_isinstance (pee_name 0)))) (pew_or1 (pet_cmp (om_neD (hu64 hu)) (pee_cb cm_len T.n_len (pea_cons (pee_name 0) pea_nil)) (pee_cb cm_len T.n_len (pea_cons (pee_name 1) pea_nil))))).pt) (pess_one (pes_ret pee_bl)) pess_nil) (pess_cons (pes_for pa (pei_rng1 T.n_range (pea_cons (pee_cb cm_len T.n_len (pea_cons (pee_name 1) pea_nil)) pea_nil)) (peg_name 2 sc.nd) (pess_cons (pes_if ((pew_or (pet_not (pet_val (pee_is T.ist_tuple (ClsV.ty _) (fun _ => by exact pe_bltn rfl T.n_tuple (by decide +kernel) rfl) T.n_isinstance (pee_ix (xm_ix (hu1 hu)) (pee_name 0) (pee_name 2))))) (pew_or1 (pet_cmp (om_neD (hu64 hu)) (pee_ix (xm_ix (hu1 hu)) (pee_name 0) (pee_name 2)) (pee_ix (xm_ix (hu1 hu)) (pee_name 1) (pee_name 2))))).pt) (pess_one (pes_ret pee_bl)) pess_nil) (pess_one (pes_if (pet_not (pet_val (pee_cb cm_all T.n_all (pea_cons (pee_lc sc.nd (own := [("_law_part", 3)]) (l := [3]) (pei_seq (pee_ix (xm_ix (hu1 hu)) (pee_name 0) (pee_name 2))) ⟨⟨rfl, by first | decide +kernel | (dsimp only [cxOf, envOfC, compEnvC, relabel]; decide +kernel) | exact of_decide_eq_true (by kernel_rfl), by first | decide +kernel | (dsimp only [cxOf, envOfC, compEnvC, relabel]; decide +kernel) | exact of_decide_eq_true (by kernel_rfl), by first | decide +kernel | (dsimp only [cxOf, envOfC, compEnvC, relabel]; decide +kernel) | exact of_decide_eq_true (by kernel_rfl), by first | decide +kernel | (dsimp only [cxOf, envOfC, compEnvC, relabel]; decide +kernel) | exact of_decide_eq_true (by kernel_rfl)⟩, (tgN_ne _), by decide, fun _ _ _ _ _ => by exact peg_name 3 sc.nd, fun _ _ _ _ _ => by exact pets_nil, fun _ _ _ _ _ => by exact pee_callN rfl (ok__law_is_int T) (hr.mono (by decide)) T.g__law_is_int T.F__law_is_int.kp T.b__law_is_int tk0 (pea_cons (pee_name 3) pea_nil)⟩) pea_nil)))) (pess_one (pes_ret pee_bl)) pess_nil)))) (pess_one (pes_ret pee_bl)))
theorem sc_Book___iter__ : FnScope ["self"] ["self"] (defScope s_Book___iter__) := ⟨rfl, rfl, rfl, by decide +kernel, rfl, by decide +kernel, by decide +kernel⟩
theorem ok_Book___iter__ (T : Tx P K mg) : FnOk P w K mg base (L2N.CX P w) 1 T.f_Book___iter__ T.fd_Book___iter__ ["self"] (spIt T.C_Book "rows" (mkD)) := defItD T.F_Book___iter__ sc_Book___iter__ rfl T.cl_Book T.nI_Book T.n_iter rfl (fun _ _ => rfl) (fun _ => rfl) (fun _ => rfl)
theorem okN_Book___iter__ (T : Tx P K mg) : FnIt P w K mg base T.f_Book___iter__ T.fd_Book___iter__ ["self"] T.C_Book "rows" := defItN T.F_Book___iter__ sc_Book___iter__ rfl T.cl_Book T.nI_Book T.n_iter rfl (fun _ _ => rfl) (fun _ => rfl) (fun _ => rfl)
theorem sc__law_same_book : FnScope ["_law_book", "_law_due"] ["_law_book", "_law_due"] (defScope s__law_same_book) := ⟨rfl, rfl, rfl, by decide +kernel, rfl, by decide +kernel, by decide +kernel⟩
noncomputable def b__law_same_book : Mo Fl := mSeq (mIf (mOr (mNot (mB (mCall 1 m__law_is_int (mCons (mLenO "Book" m_Book___len__ (mCons (mName 0) mNil)) mNil)))) (mB (mBin fNeD (mLenO "Book" m_Book___len__ (mCons (mName 0) mNil)) (mCB fLen (mCons (mName 1) mNil))))) (mRet (mC (.bl false))) mNext) (mRet (mCall 2 m__law_same_rows (mCons (mListD "Book" "rows" m_Book___len__ (mCons (mName 0) mNil)) (mCons (mName 1) mNil))))
noncomputable def m__law_same_book : Fn := fnM 2 b__law_same_book
theorem ok__law_same_book (T : Tx P K mg) : FnM P w K mg base 5 T.f__law_same_book T.fd__law_same_book ["_law_book", "_law_due"] m__law_same_book := have sc := sc__law_same_book; defH2 T.F__law_same_book sc rfl fun cdv A outer s H E hk hr hu tk pa => pess_cons (pes_if ((pew_or (pet_not (pet_val (pee_callN rfl (ok__law_is_int T) (hr.mono (by decide)) T.g__law_is_int T.F__law_is_int.kp T.b__law_is_int tk (pea_cons (pee_lenO T.c_Book (ok_Book___len__ T) rfl (hr.mono (by decide)) T.b_Book___len__ tk T.mt_Book___len__.at_ T.mt_Book___len__.fn T.n_len (pea_cons (pee_name 0) pea_nil)) pea_nil)))) (pew_or1 (pet_cmp (om_neD (hu64 hu)) (pee_lenO T.c_Book (ok_Book___len__ T) rfl (hr.mono (by decide)) T.b_Book___len__ tk T.mt_Book___len__.at_ T.mt_Book___len__.fn T.n_len (pea_cons (pee_name 0) pea_nil)) (pee_cb cm_len T.n_len (pea_cons (pee_name 1) pea_nil))))).pt) (pess_one (pes_ret pee_bl)) pess_nil) (pess_one (pes_ret (pee_callN rfl (ok__law_same_rows T) (hr.mono (by decide)) T.g__law_same_rows T.F__law_same_rows.kp T.b__law_same_rows tk (pea_cons (pee_listD (n := 1) hk T.c_Book ⟨T.mt_Book___iter__.at_, T.mt_Book___iter__.fn, T.mt_Book___len__.at_, T.mt_Book___len__.fn⟩ ((ok_Book___iter__ T).mono (by decide)) T.b_Book___iter__ ((ok_Book___len__ T).mono (by decide)) rfl T.b_Book___len__ (hr.mono (by decide)) T.n_list (pea_cons (pee_name 0) pea_nil)) (pea_cons (pee_name 1) pea_nil)))))
theorem sc_Book___contains__ : FnScope ["self", "x"] ["self", "x"] (defScope s_Book___contains__) := ⟨rfl, rfl, rfl, by decide +kernel, rfl, by decide +kernel, by decide +kernel⟩
noncomputable def b_Book___contains__ : Mo Fl := mRet (mBin (fIn false) (mName 1) (mUn (fFld fn_rows "rows") (mName 0)))
noncomputable def m_Book___contains__ : Fn := fnM 2 b_Book___contains__
theorem ok_Book___contains__ (T : Tx P K mg) : FnM P w K mg base 1 T.f_Book___contains__ T.fd_Book___contains__ ["self", "x"] m_Book___contains__ := have sc := sc_Book___contains__; defM2 T.F_Book___contains__ sc rfl fun cdv A outer s H E hr hu tk pa => pess_one (pes_ret (pee_cmp (om_in (hu65 hu)) (pee_name 1) (pee_fld T.fd_rows (pee_name 0))))
theorem sc__law_looks : FnScope ["_law_book", "_law_due", "_law_far", "_law_copy", "_law_triple_here", "_law_sender", "_law_base", "_law_taker"] ["_law_book", "_law_due", "_law_far"] (defScope s__law_looks) := ⟨rfl, rfl, rfl, by decide +kernel, rfl, by decide +kernel, by decide +kernel⟩
noncomputable def b__law_looks : Mo Fl := mSeq (mIf (mOr (mNot (mB (mCall 2 m__law_same_book (mCons (mName 0) (mCons (mName 1) mNil))))) (mNot (mB (mCall 2 m__law_same_rows (mCons (mLc [4] (mIterO "Book" "rows" (mName 0)) (tgN 4) mYes (mName 4)) (mCons (mName 1) mNil)))))) (mRet (mC (.bl false))) mNext) (mSeq (mFor (mRng2 (mCons (mUn fNeg (mC (.int 1))) (mCons (mC (.int 7)) mNil))) (tgN 3) (mFor (mRng2 (mCons (mUn fNeg (mC (.int 1))) (mCons (mC (.int 7)) mNil))) (tgN 5) (mFor (mRng2 (mCons (mUn fNeg (mC (.int 1))) (mCons (mC (.int 7)) mNil))) (tgN 7) (mIf (mB (mBin fNeD (mBinS (mIn2 false "Book" m_Book___contains__) (mTup (mCons (mName 3) (mCons (mName 5) (mCons (mName 7) mNil)))) (mName 0)) (mBin (fIn false) (mTup (mCons (mName 3) (mCons (mName 5) (mCons (mName 7) mNil)))) (mName 1)))) (mRet (mC (.bl false))) mNext)))) (mSeq (mFor (mIter (mName 1)) (tgN 4) (mFor (mIter (mLst (mCons (mC (.int 6)) (mCons (mC (.int 7)) (mCons (mC (.int 8)) (mCons (mC (.int 10)) (mCons (mC (.int 16)) (mCons (mC (.int 100)) mNil)))))))) (tgN 6) (mSeq (mAsgT (tgT 3 (tgsCons (tgN 3) (tgsCons (tgN 5) (tgsCons (tgN 7) tgsNil)))) (mName 4)) (mIf (mOr (mB (mBinS (mIn2 false "Book" m_Book___contains__) (mTup (mCons (mName 3) (mCons (mBin fSub (mName 5) (mC (.int 1))) (mCons (mBin fAdd (mName 7) (mName 6)) mNil)))) (mName 0))) (mB (mBinS (mIn2 false "Book" m_Book___contains__) (mTup (mCons (mBin fSub (mName 3) (mC (.int 1))) (mCons (mBin fAdd (mName 5) (mName 6)) (mCons (mName 7) mNil)))) (mName 0)))) (mRet (mC (.bl false))) mNext)))) (mRet (mAndV (mBinS (mIn2 true "Book" m_Book___contains__) (mTup (mCons (mBin fAdd (mName 2) (mC (.int 6))) (mCons (mC (.int 0)) (mCons (mC (.int 1)) mNil)))) (mName 0)) (mBinS (mIn2 true "Book" m_Book___contains__) (mTup (mCons (mC (.int 0)) (mCons (mC (.int 1)) (mCons (mBin fSub (mUn fNeg (mC (.int 1))) (mName 2)) mNil)))) (mName 0))))))
noncomputable def m__law_looks : Fn := fnM 8 b__law_looks
theorem ok__law_looks (T : Tx P K mg) : FnM P w K mg base 6 T.f__law_looks T.fd__law_looks ["_law_book", "_law_due", "_law_far"] m__law_looks := have sc := sc__law_looks; defM2 T.F__law_looks sc rfl fun cdv A outer s H E hr hu tk pa => pess_cons (pes_if ((pew_or (pet_not (pet_val (pee_callN rfl (ok__law_same_book T) (hr.mono (by decide)) T.g__law_same_book T.F__law_same_book.kp T.b__law_same_book tk (pea_cons (pee_name 0) (pea_cons (pee_name 1) pea_nil))))) (pew_or1 (pet_not (pet_val (pee_callN rfl (ok__law_same_rows T) (hr.mono (by decide)) T.g__law_same_rows T.F__law_same_rows.kp T.b__law_same_rows tk (pea_cons (pee_lc sc.nd (own := [("_law_triple_here", 4)]) (l := [4]) (pei_ownD T.c_Book T.mt_Book___iter__.at_ T.mt_Book___iter__.fn (okN_Book___iter__ T) T.b_Book___iter__ rfl (hr.mono (by decide)) (pee_name 0)) ⟨⟨rfl, by first | decide +kernel | (dsimp only [cxOf, envOfC, compEnvC, relabel]; decide +kernel) | exact of_decide_eq_true (by kernel_rfl), by first | decide +kernel | (dsimp only [cxOf, envOfC, compEnvC, relabel]; decide +kernel) | exact of_decide_eq_true (by kernel_rfl), by first | decide +kernel | (dsimp only [cxOf, envOfC, compEnvC, relabel]; decide +kernel) | exact of_decide_eq_true (by kernel_rfl), by first | decide +kernel | (dsimp only [cxOf, envOfC, compEnvC, relabel]; decide +kernel) | exact of_decide_eq_true (by kernel_rfl)⟩, (tgN_ne _), by decide, fun _ _ _ _ _ => by exact peg_name 4 sc.nd, fun _ _ _ _ _ => by exact pets_nil, fun _ _ _ _ _ => by exact pee_name 4⟩) (pea_cons (pee_name 1) pea_nil))))))).pt) (pess_one (pes_ret pee_bl)) pess_nil) (pess_cons (pes_for pa (pei_rng2 T.n_range (pea_cons (pee_un um_neg pee_int) (pea_cons pee_int pea_nil))) (peg_name 3 sc.nd) (pess_one (pes_for pa (pei_rng2 T.n_range (pea_cons (pee_un um_neg pee_int) (pea_cons pee_int pea_nil))) (peg_name 5 sc.nd) (pess_one (pes_for pa (pei_rng2 T.n_range (pea_cons (pee_un um_neg pee_int) (pea_cons pee_int pea_nil))) (peg_name 7 sc.nd) (pess_one (pes_if (pet_cmp (om_neD (hu64 hu)) (pee_cmpS (os_in false T.c_Book (ok_Book___contains__ T) rfl (hr.mono (by decide)) T.b_Book___contains__ tk T.mt_Book___contains__.at_ T.mt_Book___contains__.fn) (pee_tup (pea_cons (pee_name 3) (pea_cons (pee_name 5) (pea_cons (pee_name 7) pea_nil)))) (pee_name 0)) (pee_cmp (om_in (hu65 hu)) (pee_tup (pea_cons (pee_name 3) (pea_cons (pee_name 5) (pea_cons (pee_name 7) pea_nil)))) (pee_name 1))) (pess_one (pes_ret pee_bl)) pess_nil))))))) (pess_cons (pes_for pa (pei_seq (pee_name 1)) (peg_name 4 sc.nd) (pess_one (pes_for pa (pei_seq (pee_lst (pea_cons pee_int (pea_cons pee_int (pea_cons pee_int (pea_cons pee_int (pea_cons pee_int (pea_cons pee_int pea_nil)))))))) (peg_name 6 sc.nd) (pess_cons (pes_asg (pee_name 4) (peg_tup (pegs_cons (peg_name 3 sc.nd) (pegs_cons (peg_name 5 sc.nd) (pegs_cons (peg_name 7 sc.nd) pegs_nil))))) (pess_one (pes_if ((pew_or (pet_cmpS (os_in false T.c_Book (ok_Book___contains__ T) rfl (hr.mono (by decide)) T.b_Book___contains__ tk T.mt_Book___contains__.at_ T.mt_Book___contains__.fn) (pee_tup (pea_cons (pee_name 3) (pea_cons (pee_op om_sub (pee_name 5) pee_int) (pea_cons (pee_op om_add (pee_name 7) (pee_name 6)) pea_nil)))) (pee_name 0)) (pew_or1 (pet_cmpS (os_in false T.c_Book (ok_Book___contains__ T) rfl (hr.mono (by decide)) T.b_Book___contains__ tk T.mt_Book___contains__.at_ T.mt_Book___contains__.fn) (pee_tup (pea_cons (pee_op om_sub (pee_name 3) pee_int) (pea_cons (pee_op om_add (pee_name 5) (pee_name 6)) (pea_cons (pee_name 7) pea_nil)))) (pee_name 0)))).pt) (pess_one (pes_ret pee_bl)) pess_nil)))))) (pess_one (pes_ret (pee_and (pee_cmpS (os_in true T.c_Book (ok_Book___contains__ T) rfl (hr.mono (by decide)) T.b_Book___contains__ tk T.mt_Book___contains__.at_ T.mt_Book___contains__.fn) (pee_tup (pea_cons (pee_op om_add (pee_name 2) pee_int) (pea_cons pee_int (pea_cons pee_int pea_nil)))) (pee_name 0)) (pee_one (pee_cmpS (os_in true T.c_Book (ok_Book___contains__ T) rfl (hr.mono (by decide)) T.b_Book___contains__ tk T.mt_Book___contains__.at_ T.mt_Book___contains__.fn) (pee_tup (pea_cons pee_int (pea_cons pee_int (pea_cons (pee_op om_sub (pee_un um_neg pee_int) (pee_name 2)) pea_nil)))) (pee_name 0))))))))
theorem sc_law : FnScope ["_law_script", "_law_numbers_here", "_law_given", "_law_place", "_law_bad", "_law_passed", "e", "_law_due", "_law_loose", "_law_book", "_law_triple_here", "_law_part"] ["_law_script"] (defScope s_law) := ⟨rfl, rfl, rfl, by decide +kernel, rfl, by decide +kernel, by decide +kernel⟩
noncomputable def b_law : Mo Fl := mSeq (mAsg 1 (mCall 3 m__law_numbers (mCons (mCall 2 m__law_cell (mCons (mName 0) (mCons (mC (.int 0)) mNil))) (mCons (mC (.int 6)) (mCons (mBin fAdd (mLst (mCons (mC (.int 3)) (mCons (mC (.int 21)) (mCons (mC (.int 21)) (mCons (mBin fPow (mC (.int 10)) (mC (.int 9))) mNil))))) (mBin fMul (mLst (mCons (mC (.int 9)) mNil)) (mC (.int 60)))) mNil))))) (mSeq (mAsg 2 (mLst mNil)) (mSeq (mFor (mRng1 (mCons (mBin fIx (mName 1) (mC (.int 1))) mNil)) (tgN 3) (mSeq (mAsg 8 (mOrV (mBin fEqD (mBin fIx (mName 1) (mC (.int 0))) (mC (.int 1))) (mAndV (mBin fEqD (mBin fIx (mName 1) (mC (.int 0))) (mC (.int 2))) (mBin fEqD (mName 3) (mBin fIx (mName 1) (mC (.int 2))))))) (mDrop (mMut .lst fAppend (mName 2) (mCons (mCall 3 m__law_triple (mCons (mName 8) (mCons (mSl (mName 1) (mPart (mBin fAdd (mC (.int 4)) (mBin fMul (mC (.int 3)) (mName 3)))) (mPart (mBin fAdd (mC (.int 7)) (mBin fMul (mC (.int 3)) (mName 3))))) (mCons (mBin fIx (mName 1) (mC (.int 3))) mNil)))) mNil))))) (mSeq (mAsg 4 (mLc [10] (mIter (mName 2)) (tgN 10) (mNot (mB (mCall 1 m__law_is_count (mCons (mName 10) mNil)))) (mName 10))) (mSeq (mAsg 5 (mCell (mCB fList (mCons (mName 2) mNil)))) (mSeq (mTry (mAsg 9 (mMake "Book" 2 m_Book___init__ [] (mCons (mName 5) mNil))) [⟨th_BadCount, some 6, mSeq (mIf (mOr (mB (mBin fEqD (mName 4) (mLst mNil))) (mOr (mNot (mB (mIsX tx_KeeperError 6))) (mOr (mB (mIsX tx_BadKey 6)) (mNot (mB (mIs ti_tuple (mXf xfn_triple 6 "triple"))))))) (mRet (mC (.bl false))) mNext) (mRet (mAndV (mBin fEqD (mXf xfn_triple 6 "triple") (mBin fIx (mName 4) (mC (.int 0)))) (mCB fAll (mCons (mLc [11] (mIterT (mXf xfn_triple 6 "triple")) (tgN 11) mYes (mCallW 1 m__law_is_int (mCons (mName 11) mNil))) mNil))))⟩]) (mSeq (mIf (mB (mBin fNeD (mName 4) (mLst mNil))) (mRet (mC (.bl false))) mNext) (mSeq (mAsg 7 (mLc [10] (mIter (mCall 1 m__law_triples (mCons (mC (.int 6)) mNil))) (tgN 10) (mB (mBin (fIn false) (mName 10) (mName 2))) (mName 10))) (mSeq (mIf (mOr (mNot (mB (mCall 3 m__law_looks (mCons (mName 9) (mCons (mName 7) (mCons (mBin fIx (mName 1) (mC (.int 3))) mNil)))))) (mNot (mB (mCall 3 m__law_looks (mCons (mMake "Book" 2 m_Book___init__ [] (mCons (mCB fTuple (mCons (mName 2) mNil)) mNil)) (mCons (mName 7) (mCons (mBin fIx (mName 1) (mC (.int 3))) mNil))))))) (mRet (mC (.bl false))) mNext) (mSeq (mDrop (mMut .lst fAppend (mName 5) (mCons (mTup (mCons (mC (.int 5)) (mCons (mC (.int 4)) (mCons (mC (.int 3)) mNil)))) mNil))) (mSeq (mDrop (mMut .lst fInsert (mName 5) (mCons (mC (.int 0)) (mCons (mTup (mCons (mC (.int 0)) (mCons (mC (.int 1)) (mCons (mC (.int 2)) mNil)))) mNil)))) (mSeq (mIf (mNot (mB (mCall 3 m__law_looks (mCons (mName 9) (mCons (mName 7) (mCons (mBin fIx (mName 1) (mC (.int 3))) mNil)))))) (mRet (mC (.bl false))) mNext) (mRet (mCall 2 m__law_same_book (mCons (mMake "Book" 2 m_Book___init__ [.tup []] mNil) (mCons (mLst mNil) mNil)))))))))))))))
noncomputable def law_s0 : Mo Fl := (mAsg 1 (mCall 3 m__law_numbers (mCons (mCall 2 m__law_cell (mCons (mName 0) (mCons (mC (.int 0)) mNil))) (mCons (mC (.int 6)) (mCons (mBin fAdd (mLst (mCons (mC (.int 3)) (mCons (mC (.int 21)) (mCons (mC (.int 21)) (mCons (mBin fPow (mC (.int 10)) (mC (.int 9))) mNil))))) (mBin fMul (mLst (mCons (mC (.int 9)) mNil)) (mC (.int 60)))) mNil)))))
noncomputable def law_s1 : Mo Fl := (mAsg 2 (mLst mNil))
noncomputable def law_s2b_s0 : Mo Fl := (mAsg 8 (mOrV (mBin fEqD (mBin fIx (mName 1) (mC (.int 0))) (mC (.int 1))) (mAndV (mBin fEqD (mBin fIx (mName 1) (mC (.int 0))) (mC (.int 2))) (mBin fEqD (mName 3) (mBin fIx (mName 1) (mC (.int 2)))))))
noncomputable def law_s2b_s1 : Mo Fl := (mDrop (mMut .lst fAppend (mName 2) (mCons (mCall 3 m__law_triple (mCons (mName 8) (mCons (mSl (mName 1) (mPart (mBin fAdd (mC (.int 4)) (mBin fMul (mC (.int 3)) (mName 3)))) (mPart (mBin fAdd (mC (.int 7)) (mBin fMul (mC (.int 3)) (mName 3))))) (mCons (mBin fIx (mName 1) (mC (.int 3))) mNil)))) mNil)))
noncomputable def law_s2b_t1 : Mo Fl := law_s2b_s1
noncomputable def law_s2b_t0 : Mo Fl := mSeq law_s2b_s0 law_s2b_t1
noncomputable def law_s2 : Mo Fl := mFor (mRng1 (mCons (mBin fIx (mName 1) (mC (.int 1))) mNil)) (tgN 3) law_s2b_t0
noncomputable def law_s3 : Mo Fl := (mAsg 4 (mLc [10] (mIter (mName 2)) (tgN 10) (mNot (mB (mCall 1 m__law_is_count (mCons (mName 10) mNil)))) (mName 10)))
noncomputable def law_s4 : Mo Fl := (mAsg 5 (mCell (mCB fList (mCons (mName 2) mNil))))
noncomputable def law_s5 : Mo Fl := (mTry (mAsg 9 (mMake "Book" 2 m_Book___init__ [] (mCons (mName 5) mNil))) [⟨th_BadCount, some 6, mSeq (mIf (mOr (mB (mBin fEqD (mName 4) (mLst mNil))) (mOr (mNot (mB (mIsX tx_KeeperError 6))) (mOr (mB (mIsX tx_BadKey 6)) (mNot (mB (mIs ti_tuple (mXf xfn_triple 6 "triple"))))))) (mRet (mC (.bl false))) mNext) (mRet (mAndV (mBin fEqD (mXf xfn_triple 6 "triple") (mBin fIx (mName 4) (mC (.int 0)))) (mCB fAll (mCons (mLc [11] (mIterT (mXf xfn_triple 6 "triple")) (tgN 11) mYes (mCallW 1 m__law_is_int (mCons (mName 11) mNil))) mNil))))⟩])
noncomputable def law_s6 : Mo Fl := (mIf (mB (mBin fNeD (mName 4) (mLst mNil))) (mRet (mC (.bl false))) mNext)
noncomputable def law_s7 : Mo Fl := (mAsg 7 (mLc [10] (mIter (mCall 1 m__law_triples (mCons (mC (.int 6)) mNil))) (tgN 10) (mB (mBin (fIn false) (mName 10) (mName 2))) (mName 10)))
noncomputable def law_s8 : Mo Fl := (mIf (mOr (mNot (mB (mCall 3 m__law_looks (mCons (mName 9) (mCons (mName 7) (mCons (mBin fIx (mName 1) (mC (.int 3))) mNil)))))) (mNot (mB (mCall 3 m__law_looks (mCons (mMake "Book" 2 m_Book___init__ [] (mCons (mCB fTuple (mCons (mName 2) mNil)) mNil)) (mCons (mName 7) (mCons (mBin fIx (mName 1) (mC (.int 3))) mNil))))))) (mRet (mC (.bl false))) mNext)
noncomputable def law_s9 : Mo Fl := (mDrop (mMut .lst fAppend (mName 5) (mCons (mTup (mCons (mC (.int 5)) (mCons (mC (.int 4)) (mCons (mC (.int 3)) mNil)))) mNil)))
noncomputable def law_s10 : Mo Fl := (mDrop (mMut .lst fInsert (mName 5) (mCons (mC (.int 0)) (mCons (mTup (mCons (mC (.int 0)) (mCons (mC (.int 1)) (mCons (mC (.int 2)) mNil)))) mNil))))
noncomputable def law_s11 : Mo Fl := (mIf (mNot (mB (mCall 3 m__law_looks (mCons (mName 9) (mCons (mName 7) (mCons (mBin fIx (mName 1) (mC (.int 3))) mNil)))))) (mRet (mC (.bl false))) mNext)
noncomputable def law_s12 : Mo Fl := (mRet (mCall 2 m__law_same_book (mCons (mMake "Book" 2 m_Book___init__ [.tup []] mNil) (mCons (mLst mNil) mNil))))
noncomputable def law_t12 : Mo Fl := law_s12
noncomputable def law_t11 : Mo Fl := mSeq law_s11 law_t12
noncomputable def law_t10 : Mo Fl := mSeq law_s10 law_t11
noncomputable def law_t9 : Mo Fl := mSeq law_s9 law_t10
noncomputable def law_t8 : Mo Fl := mSeq law_s8 law_t9
noncomputable def law_t7 : Mo Fl := mSeq law_s7 law_t8
noncomputable def law_t6 : Mo Fl := mSeq law_s6 law_t7
noncomputable def law_t5 : Mo Fl := mSeq law_s5 law_t6
noncomputable def law_t4 : Mo Fl := mSeq law_s4 law_t5
noncomputable def law_t3 : Mo Fl := mSeq law_s3 law_t4
noncomputable def law_t2 : Mo Fl := mSeq law_s2 law_t3
noncomputable def law_t1 : Mo Fl := mSeq law_s1 law_t2
noncomputable def law_t0 : Mo Fl := mSeq law_s0 law_t1
theorem law_cut : b_law = law_t0 := rfl
noncomputable def m_law : Fn := fnM 12 b_law
theorem ok_law (T : Tx P K mg) : FnM P w K mg base 7 T.f_law T.fd_law ["_law_script"] m_law := have sc := sc_law; defM2 T.F_law sc rfl fun cdv A outer s H E hr hu tk pa => pess_cons (pes_set 1 sc.nd (pee_callN rfl (ok__law_numbers T) (hr.mono (by decide)) T.g__law_numbers T.F__law_numbers.kp T.b__law_numbers tk (pea_cons (pee_callN rfl (ok__law_cell T) (hr.mono (by decide)) T.g__law_cell T.F__law_cell.kp T.b__law_cell tk (pea_cons (pee_name 0) (pea_cons pee_int pea_nil))) (pea_cons pee_int (pea_cons (pee_op om_add (pee_lst (pea_cons pee_int (pea_cons pee_int (pea_cons pee_int (pea_cons (pee_op om_pow pee_int pee_int) pea_nil))))) (pee_op om_mul (pee_lst (pea_cons pee_int pea_nil)) pee_int)) pea_nil))))) (pess_cons (pes_set 2 sc.nd (pee_lst pea_nil)) (pess_cons (pes_for pa (pei_rng1 T.n_range (pea_cons (pee_ix (xm_ix (hu1 hu)) (pee_name 1) pee_int) pea_nil)) (peg_name 3 sc.nd) (pess_cons (pes_set 8 sc.nd (pee_or (pee_cmp (om_eqD (hu64 hu)) (pee_ix (xm_ix (hu1 hu)) (pee_name 1) pee_int) pee_int) (pee_one (pee_and (pee_cmp (om_eqD (hu64 hu)) (pee_ix (xm_ix (hu1 hu)) (pee_name 1) pee_int) pee_int) (pee_one (pee_cmp (om_eqD (hu64 hu)) (pee_name 3) (pee_ix (xm_ix (hu1 hu)) (pee_name 1) pee_int))))))) (pess_one (pes_expr (pee_mut (k := .lst) PySem.F.plainAttrs_list PySem.F.slot_list_append PySem.F.type_list_append mt_append mu_append (pee_name 2) (pea_cons (pee_callN rfl (ok__law_triple T) (hr.mono (by decide)) T.g__law_triple T.F__law_triple.kp T.b__law_triple tk (pea_cons (pee_name 8) (pea_cons (pee_sl (pee_name 1) (peo_some (pee_op om_add pee_int (pee_op om_mul pee_int (pee_name 3)))) (peo_some (pee_op om_add pee_int (pee_op om_mul pee_int (pee_name 3))))) (pea_cons (pee_ix (xm_ix (hu1 hu)) (pee_name 1) pee_int) pea_nil)))) pea_nil)))))) (pess_cons (pes_setLc 4 sc.nd (own := [("_law_triple_here", 10)]) (l := [10]) (pei_seq (pee_name 2)) ⟨⟨rfl, by first | decide +kernel | (dsimp only [cxOf, envOfC, compEnvC, relabel]; decide +kernel) | exact of_decide_eq_true (by kernel_rfl), by first | decide +kernel | (dsimp only [cxOf, envOfC, compEnvC, relabel]; decide +kernel) | exact of_decide_eq_true (by kernel_rfl), by first | decide +kernel | (dsimp only [cxOf, envOfC, compEnvC, relabel]; decide +kernel) | exact of_decide_eq_true (by kernel_rfl), by first | decide +kernel | (dsimp only [cxOf, envOfC, compEnvC, relabel]; decide +kernel) | exact of_decide_eq_true (by kernel_rfl)⟩, (tgN_ne _), by decide, fun _ _ _ _ _ => by exact peg_name 10 sc.nd, fun _ _ _ _ _ => by exact pets_one (pet_not (pet_val (pee_callN rfl (ok__law_is_count T) (hr.mono (by decide)) T.g__law_is_count T.F__law_is_count.kp T.b__law_is_count tk0 (pea_cons (pee_name 10) pea_nil)))), fun _ _ _ _ _ => by exact pee_name 10⟩) (pess_cons (pes_set 5 sc.nd (pee_cell (pee_ct cm_list T.n_list (pea_cons (pee_name 2) pea_nil)))) (pess_cons (pes_try sc.nd tk (fun _ _ _ tk pa => by exact pess_one (pes_set 9 sc.nd (pee_makeN rfl T.c_Book ⟨T.mk_Book, T.mt_Book___init__.at_, T.mt_Book___init__.fn, T.kp_Book⟩ (ok_Book___init__ T) (hr.mono (by decide)) T.b_Book___init__ .nil Dfl.nil tk (pea_cons (pee_name 5) pea_nil)))) (phds_as 6 ⟨rfl, by decide, .inl T.c_BadCount⟩ T.hd_BadCount (fun _ _ _ _ _ hz hf => by exact pess_cons (pes_if ((pew_or (pet_cmp (om_eqD (hu64 hu)) (pee_name 4) (pee_lst pea_nil)) (pew_or (pet_not (pet_val (pee_isX 6 hz hf T.isx_KeeperError (ClsV.own _) (fun _ => by exact pe_glob rfl T.c_KeeperError rfl) T.n_isinstance))) (pew_or (pet_val (pee_isX 6 hz hf T.isx_BadKey (ClsV.own _) (fun _ => by exact pe_glob rfl T.c_BadKey rfl) T.n_isinstance)) (pew_or1 (pet_not (pet_val (pee_is T.ist_tuple (ClsV.ty _) (fun _ => by exact pe_bltn rfl T.n_tuple (by decide +kernel) rfl) T.n_isinstance (pee_xf 6 hz hf T.xf_triple)))))))).pt) (pess_one (pes_ret pee_bl)) pess_nil) (pess_one (pes_ret (pee_and (pee_cmp (om_eqD (hu64 hu)) (pee_xf 6 hz hf T.xf_triple) (pee_ix (xm_ix (hu1 hu)) (pee_name 4) pee_int)) (pee_one (pee_cb (cm_allH (hotOf hz hf)) T.n_all (pea_cons (pee_lcH (hotOf hz hf) sc.nd (own := [("_law_part", 11)]) (l := [11]) (pee_xf 6 hz hf T.xf_triple) ⟨⟨rfl, by first | decide +kernel | (dsimp only [cxOf, envOfC, compEnvC, relabel]; decide +kernel) | exact of_decide_eq_true (by kernel_rfl), by first | decide +kernel | (dsimp only [cxOf, envOfC, compEnvC, relabel]; decide +kernel) | exact of_decide_eq_true (by kernel_rfl), by first | decide +kernel | (dsimp only [cxOf, envOfC, compEnvC, relabel]; decide +kernel) | exact of_decide_eq_true (by kernel_rfl), by first | decide +kernel | (dsimp only [cxOf, envOfC, compEnvC, relabel]; decide +kernel) | exact of_decide_eq_true (by kernel_rfl)⟩, (tgN_ne _), by decide, fun _ _ _ _ _ => by exact peg_name 11 sc.nd, fun _ _ _ _ _ => by exact pets_nil, fun _ _ _ _ _ => by exact (by exact pee_callWN rfl (okw__law_is_int T) (rmw hr (by decide)) T.g__law_is_int T.F__law_is_int.kp T.b__law_is_int (pea_cons (pee_name 11) pea_nil))⟩) pea_nil))))))) phds_nil)) (pess_cons (pes_if (pet_cmp (om_neD (hu64 hu)) (pee_name 4) (pee_lst pea_nil)) (pess_one (pes_ret pee_bl)) pess_nil) (pess_cons (pes_setLc 7 sc.nd (own := [("_law_triple_here", 10)]) (l := [10]) (pei_seq (pee_callN rfl (ok__law_triples T) (hr.mono (by decide)) T.g__law_triples T.F__law_triples.kp T.b__law_triples tk (pea_cons pee_int pea_nil))) ⟨⟨rfl, by first | decide +kernel | (dsimp only [cxOf, envOfC, compEnvC, relabel]; decide +kernel) | exact of_decide_eq_true (by kernel_rfl), by first | decide +kernel | (dsimp only [cxOf, envOfC, compEnvC, relabel]; decide +kernel) | exact of_decide_eq_true (by kernel_rfl), by first | decide +kernel | (dsimp only [cxOf, envOfC, compEnvC, relabel]; decide +kernel) | exact of_decide_eq_true (by kernel_rfl), by first | decide +kernel | (dsimp only [cxOf, envOfC, compEnvC, relabel]; decide +kernel) | exact of_decide_eq_true (by kernel_rfl)⟩, (tgN_ne _), by decide, fun _ _ _ _ _ => by exact peg_name 10 sc.nd, fun _ _ _ _ _ => by exact pets_one (pet_cmp (om_in (hu65 hu)) (pee_name 10) (pee_name 2)), fun _ _ _ _ _ => by exact pee_name 10⟩) (pess_cons (pes_if ((pew_or (pet_not (pet_val (pee_callN rfl (ok__law_looks T) (hr.mono (by decide)) T.g__law_looks T.F__law_looks.kp T.b__law_looks tk (pea_cons (pee_name 9) (pea_cons (pee_name 7) (pea_cons (pee_ix (xm_ix (hu1 hu)) (pee_name 1) pee_int) pea_nil)))))) (pew_or1 (pet_not (pet_val (pee_callN rfl (ok__law_looks T) (hr.mono (by decide)) T.g__law_looks T.F__law_looks.kp T.b__law_looks tk (pea_cons (pee_makeN rfl T.c_Book ⟨T.mk_Book, T.mt_Book___init__.at_, T.mt_Book___init__.fn, T.kp_Book⟩ (ok_Book___init__ T) (hr.mono (by decide)) T.b_Book___init__ .nil Dfl.nil tk (pea_cons (pee_ct cm_tuple T.n_tuple (pea_cons (pee_name 2) pea_nil)) pea_nil)) (pea_cons (pee_name 7) (pea_cons (pee_ix (xm_ix (hu1 hu)) (pee_name 1) pee_int) pea_nil)))))))).pt) (pess_one (pes_ret pee_bl)) pess_nil) (pess_cons (pes_expr (pee_mut (k := .lst) PySem.F.plainAttrs_list PySem.F.slot_list_append PySem.F.type_list_append mt_append mu_append (pee_name 5) (pea_cons (pee_tup (pea_cons pee_int (pea_cons pee_int (pea_cons pee_int pea_nil)))) pea_nil))) (pess_cons (pes_expr (pee_mut (k := .lst) PySem.F.plainAttrs_list PySem.F.slot_list_insert PySem.F.type_list_insert mt_insert mu_insert (pee_name 5) (pea_cons pee_int (pea_cons (pee_tup (pea_cons pee_int (pea_cons pee_int (pea_cons pee_int pea_nil)))) pea_nil)))) (pess_cons (pes_if (pet_not (pet_val (pee_callN rfl (ok__law_looks T) (hr.mono (by decide)) T.g__law_looks T.F__law_looks.kp T.b__law_looks tk (pea_cons (pee_name 9) (pea_cons (pee_name 7) (pea_cons (pee_ix (xm_ix (hu1 hu)) (pee_name 1) pee_int) pea_nil)))))) (pess_one (pes_ret pee_bl)) pess_nil) (pess_one (pes_ret (pee_callN rfl (ok__law_same_book T) (hr.mono (by decide)) T.g__law_same_book T.F__law_same_book.kp T.b__law_same_book tk (pea_cons (pee_make0N rfl T.c_Book ⟨T.mk_Book, T.mt_Book___init__.at_, T.mt_Book___init__.fn, T.kp_Book⟩ (ok_Book___init__ T) (hr.mono (by decide)) T.bd_Book___init__ (show Vals [V.ref T.E_Book___init__] [Value.ref T.E_Book___init__] from .cons rfl .nil) T.df_Book___init__ tk) (pea_cons (pee_lst pea_nil) pea_nil))))))))))))))))
end
end Z
set_option linter.all false
set_option maxRecDepth 100000
namespace Z
open PySem PySem.Spec PyProof.Rows
open L2 hiding XE Takes CX takes_of passes_call passAt MkP PMk ps_raise mk_of ps_try_as ps_try_many pmk_own Takes.imp
open L2N
theorem x_cell (ns : List Int) (k : Nat) (G : List Cell) : m__law_cell [.frl (ns.map W.int), .int k] G = some (.ok (.val (.int (ns.getD k 0))), G) := by
  unfold m__law_cell
  rw [fnM_e]
  by_cases h : k < ns.length
  · simp [b__law_cell, h, atI_mapI]
  · simp [b__law_cell, h]
theorem x_is_int (k : Int) (G : List Cell) : m__law_is_int [.int k] G = some (.ok (.val (.bl true)), G) := by
  unfold m__law_is_int
  rw [fnM_e]
  simp [b__law_is_int, tyOfW, ti_int, ti_bool, tabAt]
theorem x_numbers (c salt : Int) (ls : List Int) (hl : ∀ l ∈ ls, 0 < l ∧ l.natAbs.log2 < 9000) (hn : ls.length ≤ 1000) (G : List Cell) :
    ∃ xs : List Int, m__law_numbers [.int c, .int salt, .lst (ls.map W.int)] G = some (.ok (.own (.lst (xs.map W.int))), G) ∧ xs.length = ls.length ∧ ∀ (i : Nat) (x l : Int), xs[i]? = some x → ls[i]? = some l → 0 ≤ x ∧ x < l := by
  unfold m__law_numbers
  rw [fnM_e]
  simp [b__law_numbers, sz]
  generalize hF : forL _ _ _ _ = F
  obtain ⟨s', rfl, xs, rest, v, rfl, h1, h2⟩ := forL_at hF (fun i s => ∃ (xs : List Int) (rest : Int) (v : SV), s = ⟨[.val (.int c), .val (.int salt), .val (.lst (ls.map W.int)), .val (.int rest), .own (.lst (xs.map W.int)), v], G⟩ ∧ xs.length = i ∧
    ∀ (i : Nat) (x l : Int), xs[i]? = some x → ls[i]? = some l → 0 ≤ x ∧ x < l) ⟨[], c, .non, rfl, rfl, fun i x l h => by simp at h⟩ (by
      rintro i hi s ⟨xs, rest, v, rfl, h1, h2⟩
      simp at hi
      have hm : ls[i] ∈ ls := List.getElem_mem hi
      obtain ⟨l1, l2⟩ := hl _ hm
      have ext : ∀ y : Int, 0 ≤ y → y < ls[i] → ∀ (j : Nat) (x l : Int), (xs ++ [y])[j]? = some x → ls[j]? = some l → 0 ≤ x ∧ x < l := fun y y0 y1 j x l e1 e2 => by
        rcases Nat.lt_or_ge j xs.length with q | q
        · rw [List.getElem?_append_left q] at e1
          exact h2 j x l e1 e2
        · rw [List.getElem?_append_right q] at e1
          have : j = i := by
            have := get_lt e1
            simp at this
            omega
          subst this
          rw [h1] at e1
          simp at e1
          rw [List.getElem?_eq_getElem hi] at e2
          cases e2
          subst e1
          exact ⟨y0, y1⟩
      have s1 : xs.length < sz := by show _ < 16777216; omega
      by_cases hc : c < 1000000000000000000
      · have l7 : Nat.log2 7 < 9000 := by decide
        simp [fAppend, s1, CPow, CMul, CDivW, hc, l1, l7]
        exact ⟨xs ++ [(rest * 75 + 74 + salt) % 65537 / 7 % ls[i]], by simp, by simp [h1], ext _ (Int.emod_nonneg _ (by omega)) (Int.emod_lt_of_pos _ l1)⟩
      · simp [fAppend, s1, CPow, CMul, CDivW, hc, l1, l2]
        exact ⟨xs ++ [rest % ls[i]], by simp, by simp [h1], ext _ (Int.emod_nonneg _ (by omega)) (Int.emod_lt_of_pos _ l1)⟩)
  simp
  exact ⟨xs, rfl, by simpa using h1, h2⟩
def tupI (xs : List Int) : W := .tup (xs.map W.int)
@[simp] theorem ty_int {i : Int} : tyOfW (.int i) = some (.ty "int") := rfl
@[simp] theorem ty_bl {i : Bool} : tyOfW (.bl i) = some (.ty "bool") := rfl
@[simp] theorem ty_lst {i : List W} : tyOfW (.lst i) = some (.ty "list") := rfl
@[simp] theorem ty_frl {i : List W} : tyOfW (.frl i) = some (.ty "list") := rfl
@[simp] theorem ty_tup {i : List W} : tyOfW (.tup i) = some (.ty "tuple") := rfl
@[simp] theorem fFld_o {nms : List Str} {f nm : Str} {fs : List (Str × W)} : fFld nms f (.obj nm fs) = if nm ∈ nms then (fs.lookup f).map .imm else none := rfl
theorem emb_row : Emb tupI 1 := emb_tup emb_int
section
variable {r : List SV} {G : List Cell} {s : S} {rs : List (List Int)} {ms : List Int} {xs : List W}
@[simp] theorem look_tupI {k : List Int} : look (.val (tupI k)) ⟨r, G⟩ = some (.ok (tupI k), ⟨r, G⟩) := rfl
@[simp] theorem deref_tupI {k : List Int} : derefW s (tupI k) = some (tupI k) := rfl
@[simp] theorem walk_tupI {k : List Int} : walkOf s (tupI k) = some ⟨k.map W.int, none⟩ := rfl
@[simp] theorem ty_tupI {k : List Int} : tyOfW (tupI k) = some (.ty "tuple") := rfl
end
theorem fAll_trues {γ : Type} (xs : List γ) : fAll [.lst (xs.map fun _ => W.bl true)] = some (.imm (.bl true)) := by
  have : blsOf (xs.map fun _ => W.bl true) = some (xs.map fun _ => true) := by
    induction xs with
    | nil => rfl
    | cons x xs ih => simp [blsOf, ih]
  unfold fAll
  simp [this]
theorem fNeD_same (a : Int) : fNeD (.int a) (.int a) = some (.imm (.bl false)) := by rw [fNeD_emb emb_int (by decide)]; simp
theorem x_isints {a b c : SV} (xs : List Int) (h : xs.length ≤ sz) (G : List Cell) : lcL [3] (tgN 3) mYes (mCall 1 m__law_is_int (mCons (mName 3) mNil)) ⟨xs.map W.int, none⟩ (xs.map W.int) [] ⟨[a, b, c, .non], G⟩ =
    some (.ok (.own (.lst (xs.map fun _ => W.bl true))), ⟨[a, b, c, .non], G⟩) := by
  rw [lc_all (by exact trivial) (fun _ => W.bl true)]
  · simp
  · intro k hk
    exact ⟨⟨[a, b, c, .val (.int k)], G⟩, by simp, ⟨[a, b, c, .val (.int k)], G⟩, by simp [x_is_int], by simp⟩
  · simpa using h
theorem x_same (rs : List (List Int)) (hl : rs.length ≤ 1000) (hr : ∀ xs ∈ rs, xs.length ≤ sz) (G : List Cell) : m__law_same_rows [.lst (rs.map tupI), .lst (rs.map tupI)] G = some (.ok (.val (.bl true)), G) := by
  unfold m__law_same_rows
  rw [fnM_e]
  have hb : Rk (rs.length : Int) := rk_nat (by omega)
  have t1 : tabAt ti_list (.ty "list") = some true := by decide +kernel
  have t2 : tabAt ti_tuple (.ty "tuple") = some true := by decide +kernel
  simp [b__law_same_rows, t1, fNeD_same, hb]
  generalize hF : forL _ _ _ _ = F
  obtain ⟨s', rfl, v2, rfl⟩ := forL_at hF (fun i s => ∃ v2, s = ⟨[.val (.lst (rs.map tupI)), .val (.lst (rs.map tupI)), v2, .non], G⟩) ⟨_, rfl⟩ (by
    rintro i hi s ⟨v2, rfl⟩
    simp [rngW] at hi
    have hi' : i < rs.length := by omega
    have e : atI (rs.map tupI) (i : Int) = some (tupI rs[i]) := atI_nat (by simp [hi'])
    have hne : fNeD (tupI rs[i]) (tupI rs[i]) = some (.imm (.bl false)) := by rw [fNeD_emb emb_row (by decide)]; simp
    have ha := fAll_trues rs[i]
    have hq := hr rs[i] (List.getElem_mem hi')
    simp [rngW, e, t2, hne, x_isints _ hq, ha])
  simp
end Z
set_option linter.all false
set_option maxRecDepth 100000
set_option maxHeartbeats 1000000
namespace Z
open PySem PySem.Spec PyProof.Rows
open L2 hiding XE Takes CX takes_of passes_call passAt MkP PMk ps_raise mk_of ps_try_as ps_try_many pmk_own Takes.imp
open L2N
def cube : List (List Int) := (List.range 6).flatMap fun (a : Nat) => (List.range 6).flatMap fun (b : Nat) => (List.range 6).map fun (c : Nat) => [(a : Int), (b : Int), (c : Int)]
def okT : List Int → Bool
  | [a, b, c] => decide (a ≠ b) && (decide (a ≠ c) && decide (b ≠ c))
  | _ => false
def every : List (List Int) := cube.filter okT
theorem cube_nodup : cube.Nodup := by decide +kernel
theorem every_length : every.length = 120 := by decide +kernel
theorem every_mem {t : List Int} (h : t ∈ every) : ∃ a b c : Nat, t = [(a : Int), (b : Int), (c : Int)] ∧ a < 6 ∧ b < 6 ∧ c < 6 ∧ a ≠ b ∧ a ≠ c ∧ b ≠ c := by
  obtain ⟨h1, h2⟩ := List.mem_filter.mp h
  simp only [cube, List.mem_flatMap, List.mem_map, List.mem_range] at h1
  obtain ⟨a, ha, b, hb, c, hc, rfl⟩ := h1
  simp [okT] at h2
  exact ⟨a, b, c, rfl, ha, hb, hc, by omega, by omega, by omega⟩
theorem every_ne {t : List Int} (h : t ∈ every) : t ≠ [] := by
  obtain ⟨a, b, c, rfl, _⟩ := every_mem h
  simp
def asc (cs : List (List Int)) : List (List Int) := cube.filter fun t => decide (t ∈ cs)
theorem asc_nodup (cs : List (List Int)) : (asc cs).Nodup := cube_nodup.filter _
def book (ts : List (List Int)) : W := .obj "Book" [("rows", .dF (rowsD ts))]
section
variable {r : List SV} {G : List Cell} {s : S} {ts us : List (List Int)} {xs : List W}
@[simp] theorem lk_book {a : W} : List.lookup ("rows" : Str) [("rows", a)] = some a := rfl
@[simp] theorem look_book : look (.val (book ts)) ⟨r, G⟩ = some (.ok (book ts), ⟨r, G⟩) := rfl
@[simp] theorem deref_book : derefW s (book ts) = some (book ts) := rfl
@[simp] theorem ty_book : tyOfW (book ts) = some (.own "Book") := rfl
@[simp high] theorem chk1_book : chk1 "Book" (book ts :: xs) ⟨r, G⟩ = some (.ok (), ⟨r, G⟩) := by simp [book]
@[simp] theorem rows_book : fldS "Book" "rows" rdD (book ts) = if ts.length ≤ sz then some (ts.map tupI) else none := by
  simp [fldS, book]
  rw [rowsD_keys]
  rfl
@[simp] theorem fFld_book : fFld fn_rows "rows" (book ts) = some (.imm (.dF (rowsD ts))) := by simp [book, fn_rows]
end
theorem fIn_rowsT (neg : Bool) (ts : List (List Int)) {t : List Int} (h : t ≠ []) : fIn neg (tupI t) (.dF (rowsD ts)) = some (.imm (.bl (decide (t ∈ ts) != neg))) := fIn_rows neg ts h
theorem in_range {x0 x1 x2 x3 : SV} {G : List Cell} (xs : List Int) (h : ∀ x ∈ xs, 0 ≤ x ∧ x < 6) (hl : xs.length ≤ sz) : lcL [4] (tgN 4) mYes (mChain fLe fLt (mC (.int 0)) (mName 4) (mC (.int 6))) ⟨xs.map W.int, none⟩ (xs.map W.int) [] ⟨[x0, x1, x2, x3, .non], G⟩ =
    some (.ok (.own (.lst (xs.map fun _ => W.bl true))), ⟨[x0, x1, x2, x3, .non], G⟩) := by
  rw [lc_all (by exact trivial) (fun _ => W.bl true)]
  · simp
  · intro k hk
    obtain ⟨h1, h2⟩ := h k hk
    exact ⟨⟨[x0, x1, x2, x3, .val (.int k)], G⟩, by simp, ⟨[x0, x1, x2, x3, .val (.int k)], G⟩, by simp [h1, h2], by simp⟩
  · simpa using hl
theorem x_is_count {t : List Int} (h : t ∈ every) (G : List Cell) : m_is_count [tupI t] G = some (.ok (.val (.bl true)), G) := by
  obtain ⟨a, b, c, rfl, ha, hb, hc, hab, hac, hbc⟩ := every_mem h
  unfold m_is_count
  rw [fnM_e]
  have e1 : ¬ (a : Int) = b := by omega
  have e2 : ¬ (a : Int) = c := by omega
  have e3 : ¬ (b : Int) = c := by omega
  have lc := in_range (x0 := .val (.tup [.int a, .int b, .int c])) (x1 := .val (.int a)) (x2 := .val (.int b)) (x3 := .val (.int c)) (G := G) [(a : Int), (b : Int), (c : Int)] (by
    intro x hx
    simp at hx
    rcases hx with rfl | rfl | rfl <;> omega) (by show 3 ≤ 16777216; omega)
  have all := fAll_trues [(a : Int), (b : Int), (c : Int)]
  simp only [List.map_cons, List.map_nil] at lc all
  simp [b_is_count, tupI, fNeD_same, fEqD_i, e1, e2, e3, lc, all]
theorem asc_fold (cs : List (List Int)) : (List.range 6).foldl (fun (acc : KVs) (a : Nat) => (List.range 6).foldl (fun acc (b : Nat) => ((List.range 6).filter fun (c : Nat) => decide ([(a : Int), (b : Int), (c : Int)] ∈ cs)).foldl (fun acc (c : Nat) => putW acc (kT [(a : Int), (b : Int), (c : Int)]) (.bl true)) acc) acc) [] = rowsD (asc cs) := by
  have one : ∀ (acc : KVs) (a b : Nat), ((List.range 6).filter fun (c : Nat) => decide ([(a : Int), (b : Int), (c : Int)] ∈ cs)).foldl (fun acc (c : Nat) => putW acc (kT [(a : Int), (b : Int), (c : Int)]) (.bl true)) acc =
      (((List.range 6).map fun (c : Nat) => [(a : Int), (b : Int), (c : Int)]).filter fun t => decide (t ∈ cs)).foldl (fun acc t => putW acc (kT t) (.bl true)) acc := fun acc a b => by
    rw [List.filter_map, List.foldl_map]
    rfl
  have two : ∀ (acc : KVs) (a : Nat), (List.range 6).foldl (fun acc (b : Nat) => (((List.range 6).map fun (c : Nat) => [(a : Int), (b : Int), (c : Int)]).filter fun t => decide (t ∈ cs)).foldl (fun acc t => putW acc (kT t) (.bl true)) acc) acc =
      (((List.range 6).flatMap fun (b : Nat) => (List.range 6).map fun (c : Nat) => [(a : Int), (b : Int), (c : Int)]).filter fun t => decide (t ∈ cs)).foldl (fun acc t => putW acc (kT t) (.bl true)) acc := fun acc a => by
    rw [List.filter_flatMap, List.foldl_flatMap]
  simp only [one, two]
  have three : (List.range 6).foldl (fun acc (a : Nat) => (((List.range 6).flatMap fun (b : Nat) => (List.range 6).map fun (c : Nat) => [(a : Int), (b : Int), (c : Int)]).filter fun t => decide (t ∈ cs)).foldl (fun acc t => putW acc (kT t) (.bl true)) acc) (rowsD []) =
      (cube.filter fun t => decide (t ∈ cs)).foldl (fun acc t => putW acc (kT t) (.bl true)) (rowsD []) := by
    unfold cube
    rw [List.filter_flatMap, List.foldl_flatMap]
  refine three.trans ?_
  rw [fold_rows]
  show rowsD ((asc cs).foldl addT []) = _
  rw [fold_new _ _ (asc_nodup cs) (fun _ _ z => by simp at z), List.nil_append]
theorem given_at {x0 x1 x2 x4 x5 x6 : SV} {G : List Cell} {k : Wk} (cs : List (List Int)) (hne : ∀ t ∈ cs, t ≠ []) (hl : cs.length ≤ 2000000) (hk : k.ok ⟨[x0, x1, x2, .non, x4, x5, x6], G⟩) : clL [3] (tgN 3) mYes (putD (mName 3) (mC (.bl true))) k (cs.map tupI) [] ⟨[x0, x1, x2, .non, x4, x5, x6], G⟩ =
    some (rowsD (cs.foldl addT []), ⟨[x0, x1, x2, .non, x4, x5, x6], G⟩) := by
  rw [cl_fold hk (fun _ => true) (fun t acc => putW acc (kT t) (.bl true)) 1 (fun _ _ => putW_len)]
  · rw [List.filter_eq_self.mpr fun _ _ => rfl]
    exact congrArg (fun z => some (z, _)) (fold_rows cs [])
  · intro t ht acc hz
    have tk : tkOf (tupI t) = some (kT t) := tkOf_ints (hne t ht)
    have hz : acc.length < sz := hz
    exact ⟨⟨[x0, x1, x2, .val (tupI t), x4, x5, x6], G⟩, by simp, fun _ => ⟨⟨[x0, x1, x2, .val (tupI t), x4, x5, x6], G⟩, by simp [tk, hz], by simp⟩, fun z => by cases z⟩
  · show 0 + 1 * cs.length ≤ 16777216
    omega
def step3 (gs : List (List Int)) (a b : Nat) (acc : KVs) : KVs := ((List.range 6).filter fun (c : Nat) => decide ([(a : Int), (b : Int), (c : Int)] ∈ gs)).foldl (fun acc (c : Nat) => putW acc (kT [(a : Int), (b : Int), (c : Int)]) (.bl true)) acc
def step2 (gs : List (List Int)) (a : Nat) (acc : KVs) : KVs := (List.range 6).foldl (fun acc (b : Nat) => step3 gs a b acc) acc
theorem fold_len {γ : Type} {g : γ → KVs → KVs} {c : Nat} (hg : ∀ x acc, (g x acc).length ≤ acc.length + c) : ∀ (xs : List γ) (acc : KVs), (xs.foldl (fun a x => g x a) acc).length ≤ acc.length + c * xs.length
  | [], acc => by simp
  | x :: xs, acc => by
    rw [List.foldl_cons, List.length_cons, Nat.mul_succ]
    have := fold_len hg xs (g x acc)
    have := hg x acc
    omega
theorem step3_len (gs : List (List Int)) (a b : Nat) (acc : KVs) : (step3 gs a b acc).length ≤ acc.length + 6 := by
  have h := fold_len (g := fun (c : Nat) acc => putW acc (kT [(a : Int), (b : Int), (c : Int)]) (.bl true)) (c := 1) (fun _ _ => putW_len) ((List.range 6).filter fun (c : Nat) => decide ([(a : Int), (b : Int), (c : Int)] ∈ gs)) acc
  have h2 := List.length_filter_le (fun (c : Nat) => decide ([(a : Int), (b : Int), (c : Int)] ∈ gs)) (List.range 6)
  rw [List.length_range] at h2
  unfold step3
  omega
theorem step2_len (gs : List (List Int)) (a : Nat) (acc : KVs) : (step2 gs a acc).length ≤ acc.length + 36 := by
  have h := fold_len (g := fun b acc => step3 gs a b acc) (c := 6) (fun b acc => step3_len gs a b acc) (List.range 6) acc
  rw [List.length_range] at h
  exact h
theorem rng6 : rngW 0 6 = (List.range 6).map fun (a : Nat) => W.int (a : Int) := by simp [rngW]
theorem lvl3 {x0 x3 : SV} {G : List Cell} (gs : List (List Int)) (a b : Nat) (acc : KVs) (h : acc.length + 6 ≤ sz) :
    clL [6] (tgN 6) (mB (mBin (fIn false) (mTup (mCons (mName 4) (mCons (mName 5) (mCons (mName 6) mNil)))) (mName 1))) (putD (mTup (mCons (mName 4) (mCons (mName 5) (mCons (mName 6) mNil)))) (mC (.bl true))) ⟨rngW 0 6, none⟩ (rngW 0 6) acc
      ⟨[x0, .val (.dF (rowsD gs)), .val (.lst (rngW 0 6)), x3, .val (.int a), .val (.int b), .non], G⟩ = some (step3 gs a b acc, ⟨[x0, .val (.dF (rowsD gs)), .val (.lst (rngW 0 6)), x3, .val (.int a), .val (.int b), .non], G⟩) := by
  generalize hr : rngW 0 6 = R
  have hR : R = (List.range 6).map fun (a : Nat) => W.int (a : Int) := hr ▸ rng6
  have h3 : 3 ≤ sz := by show 3 ≤ 16777216; omega
  have key := cl_fold (s := ⟨[x0, .val (.dF (rowsD gs)), .val (.lst R), x3, .val (.int a), .val (.int b), .non], G⟩) (k := ⟨R, none⟩) (vs := [6]) (t := tgN 6) (tt := mB (mBin (fIn false) (mTup (mCons (mName 4) (mCons (mName 5) (mCons (mName 6) mNil)))) (mName 1))) (body := putD (mTup (mCons (mName 4) (mCons (mName 5) (mCons (mName 6) mNil)))) (mC (.bl true))) (e := fun (c : Nat) => W.int (c : Int))
    (by exact trivial) (fun (c : Nat) => decide ([(a : Int), (b : Int), (c : Int)] ∈ gs)) (fun (c : Nat) acc => putW acc (kT [(a : Int), (b : Int), (c : Int)]) (.bl true)) 1 (fun _ _ => putW_len) (List.range 6) acc (fun c hc acc hz => by
    have hz : acc.length < sz := hz
    have fi : fIn false (.tup [.int a, .int b, .int c]) (.dF (rowsD gs)) = some (.imm (.bl (decide ([(a : Int), (b : Int), (c : Int)] ∈ gs) != false))) := fIn_rows false gs (t := [(a : Int), (b : Int), (c : Int)]) (by simp)
    have tk : tkOf (.tup [.int a, .int b, .int c]) = some (kT [(a : Int), (b : Int), (c : Int)]) := tkOf_ints (t := [(a : Int), (b : Int), (c : Int)]) (by simp)
    refine ⟨⟨[x0, .val (.dF (rowsD gs)), .val (.lst R), x3, .val (.int a), .val (.int b), .val (.int c)], G⟩, by simp [fi, h3], fun _ => ⟨⟨[x0, .val (.dF (rowsD gs)), .val (.lst R), x3, .val (.int a), .val (.int b), .val (.int c)], G⟩, by simp [tk, hz, h3], by simp⟩, fun _ => by simp⟩) (by simpa using h)
  rw [← hR] at key
  exact key
theorem lvl2 {x0 x3 : SV} {G : List Cell} (gs : List (List Int)) (a : Nat) (acc : KVs) (h : acc.length + 36 ≤ sz) :
    clL [5] (tgN 5) mYes (clM [6] (mIter (mName 2)) (tgN 6) (mB (mBin (fIn false) (mTup (mCons (mName 4) (mCons (mName 5) (mCons (mName 6) mNil)))) (mName 1))) (putD (mTup (mCons (mName 4) (mCons (mName 5) (mCons (mName 6) mNil)))) (mC (.bl true)))) ⟨rngW 0 6, none⟩ (rngW 0 6) acc
      ⟨[x0, .val (.dF (rowsD gs)), .val (.lst (rngW 0 6)), x3, .val (.int a), .non, .non], G⟩ = some (step2 gs a acc, ⟨[x0, .val (.dF (rowsD gs)), .val (.lst (rngW 0 6)), x3, .val (.int a), .non, .non], G⟩) := by
  have three := fun (b : Nat) acc h => lvl3 (x0 := x0) (x3 := x3) (G := G) gs a b acc h
  generalize hr : rngW 0 6 = R at three ⊢
  have hR : R = (List.range 6).map fun (a : Nat) => W.int (a : Int) := hr ▸ rng6
  have key := cl_fold (s := ⟨[x0, .val (.dF (rowsD gs)), .val (.lst R), x3, .val (.int a), .non, .non], G⟩) (k := ⟨R, none⟩) (vs := [5]) (t := tgN 5) (tt := mYes) (body := clM [6] (mIter (mName 2)) (tgN 6) (mB (mBin (fIn false) (mTup (mCons (mName 4) (mCons (mName 5) (mCons (mName 6) mNil)))) (mName 1))) (putD (mTup (mCons (mName 4) (mCons (mName 5) (mCons (mName 6) mNil)))) (mC (.bl true))))
    (e := fun (b : Nat) => W.int (b : Int)) (by exact trivial) (fun _ => true) (fun b acc => step3 gs a b acc) 6 (fun b acc => step3_len gs a b acc) (List.range 6) acc (fun b hb acc hz => ⟨⟨[x0, .val (.dF (rowsD gs)), .val (.lst R), x3, .val (.int a), .val (.int b), .non], G⟩, by simp, fun _ => ⟨⟨[x0, .val (.dF (rowsD gs)), .val (.lst R), x3, .val (.int a), .val (.int b), .non], G⟩, by simp [three b acc hz], by simp⟩, fun z => by cases z⟩) (by simpa using h)
  rw [← hR, List.filter_eq_self.mpr fun _ _ => rfl] at key
  exact key
theorem lvl1 {x0 x3 : SV} {G : List Cell} (gs : List (List Int)) :
    clL [4] (tgN 4) mYes (clM [5] (mIter (mName 2)) (tgN 5) mYes (clM [6] (mIter (mName 2)) (tgN 6) (mB (mBin (fIn false) (mTup (mCons (mName 4) (mCons (mName 5) (mCons (mName 6) mNil)))) (mName 1))) (putD (mTup (mCons (mName 4) (mCons (mName 5) (mCons (mName 6) mNil)))) (mC (.bl true))))) ⟨rngW 0 6, none⟩ (rngW 0 6) []
      ⟨[x0, .val (.dF (rowsD gs)), .val (.lst (rngW 0 6)), x3, .non, .non, .non], G⟩ = some (rowsD (asc gs), ⟨[x0, .val (.dF (rowsD gs)), .val (.lst (rngW 0 6)), x3, .non, .non, .non], G⟩) := by
  have two := fun (a : Nat) acc h => lvl2 (x0 := x0) (x3 := x3) (G := G) gs a acc h
  generalize hr : rngW 0 6 = R at two ⊢
  have hR : R = (List.range 6).map fun (a : Nat) => W.int (a : Int) := hr ▸ rng6
  have key := cl_fold (s := ⟨[x0, .val (.dF (rowsD gs)), .val (.lst R), x3, .non, .non, .non], G⟩) (k := ⟨R, none⟩) (vs := [4]) (t := tgN 4) (tt := mYes) (body := clM [5] (mIter (mName 2)) (tgN 5) mYes (clM [6] (mIter (mName 2)) (tgN 6) (mB (mBin (fIn false) (mTup (mCons (mName 4) (mCons (mName 5) (mCons (mName 6) mNil)))) (mName 1))) (putD (mTup (mCons (mName 4) (mCons (mName 5) (mCons (mName 6) mNil)))) (mC (.bl true)))))
    (e := fun (b : Nat) => W.int (b : Int)) (by exact trivial) (fun _ => true) (fun a acc => step2 gs a acc) 36 (fun a acc => step2_len gs a acc) (List.range 6) [] (fun a ha acc hz => ⟨⟨[x0, .val (.dF (rowsD gs)), .val (.lst R), x3, .val (.int a), .non, .non], G⟩, by simp, fun _ => ⟨⟨[x0, .val (.dF (rowsD gs)), .val (.lst R), x3, .val (.int a), .non, .non], G⟩, by simp [two a acc hz], by simp⟩, fun z => by cases z⟩) (by show 0 + 36 * 6 ≤ 16777216; omega)
  rw [← hR, List.filter_eq_self.mpr fun _ _ => rfl] at key
  rw [key]
  exact congrArg (fun z => some (z, _)) (asc_fold gs)
theorem noRef_rows : ∀ ts : List (List Int), noRefT (rowsD ts) = true
  | [] => rfl
  | t :: ts => by
    show (noRef (.bl true) && noRefT (rowsD ts)) = true
    rw [noRef_rows ts]
    rfl
end Z
set_option linter.all false
set_option maxRecDepth 100000
set_option maxHeartbeats 1000000
namespace Z
open PySem PySem.Spec PyProof.Rows
open L2 hiding XE Takes CX takes_of passes_call passAt MkP PMk ps_raise mk_of ps_try_as ps_try_many pmk_own Takes.imp
open L2N
def Is {α : Type} (a b : α) : Prop := a = b
theorem Is.eq {α : Type} {a b : α} (h : Is a b) : a = b := h
def tripC (n a b : Nat) : List (List Int) := ((List.range n).filter fun (c : Nat) => decide (a ≠ b) && (decide (a ≠ c) && decide (b ≠ c))).map fun (c : Nat) => [(a : Int), (b : Int), (c : Int)]
def tripB (n a : Nat) : List (List Int) := (List.range n).flatMap fun b => tripC n a b
def trip (n : Nat) : List (List Int) := (List.range n).flatMap fun a => tripB n a
theorem trip_six : trip 6 = every := by
  with_unfolding_all decide +kernel
theorem take_succ_range {α : Type} (f : Nat → List α) (i : Nat) : (List.range (i + 1)).flatMap f = (List.range i).flatMap f ++ f i := by
  rw [List.range_succ, List.flatMap_append]
  simp
theorem tripC_len (n a b : Nat) : (tripC n a b).length ≤ n := by
  unfold tripC
  rw [List.length_map]
  exact Nat.le_trans (List.length_filter_le _ _) (by simp)
theorem flat_len {α : Type} {f : Nat → List α} {c : Nat} (h : ∀ i, (f i).length ≤ c) : ∀ n, ((List.range n).flatMap f).length ≤ c * n
  | 0 => by simp
  | n + 1 => by
    rw [take_succ_range, List.length_append, Nat.mul_succ]
    have := flat_len h n
    have := h n
    omega
theorem x_triples (n : Nat) (hn : n ≤ 6) (G : List Cell) : m__law_triples [.int n] G = some (.ok (.own (.lst ((trip n).map tupI))), G) := by
  unfold m__law_triples
  rw [fnM_e]
  have rk : Rk (n : Int) := rk_nat (by omega)
  have h3 : 3 ≤ sz := by show 3 ≤ 16777216; omega
  have small : ∀ {k : Nat}, k ≤ 1000 → k < sz := fun h => by show _ < 16777216; omega
  simp [b__law_triples, rk]
  generalize hF : forL _ _ _ _ = F
  obtain ⟨s', rfl, f1, v2, v3, v4, rfl, hf1⟩ := forL_at hF (fun i s => ∃ f1 v2 v3 v4, s = ⟨[.val (.int n), .own (.lst (f1.map tupI)), v2, v3, v4], G⟩ ∧ Is f1 ((List.range i).flatMap fun a => tripB n a)) ⟨[], .non, .non, .non, rfl, by simp [Is]⟩ (by
    rintro i hi s ⟨f1, v2, v3, v4, rfl, hf1⟩
    have hi : i < n := by simpa [rngW] using hi
    have l1 : f1.length ≤ 36 * i := by
      rw [hf1.eq]
      exact flat_len (fun a => Nat.le_trans (flat_len (fun b => tripC_len n a b) n) (Nat.mul_le_mul hn hn)) i
    simp [rngW, rk]
    generalize hF2 : forL _ _ _ _ = F2
    obtain ⟨s', rfl, f2, v3, v4, rfl, hf2⟩ := forL_at hF2 (fun j s => ∃ f2 v3 v4, s = ⟨[.val (.int n), .own (.lst (f2.map tupI)), .val (.int i), v3, v4], G⟩ ∧ Is f2 (f1 ++ (List.range j).flatMap fun b => tripC n i b)) ⟨f1, v3, v4, rfl, by simp [Is]⟩ (by
      rintro j hj s ⟨f2, v3, v4, rfl, hf2⟩
      have hj : j < n := by simpa [rngW] using hj
      have l2 : f2.length ≤ 36 * i + 6 * j := by
        rw [hf2.eq, List.length_append]
        have := flat_len (f := fun b => tripC n i b) (fun b => Nat.le_trans (tripC_len n i b) hn) j
        omega
      simp [rngW, rk]
      generalize hF3 : forL _ _ _ _ = F3
      obtain ⟨s', rfl, f3, v4, rfl, hf3⟩ := forL_at hF3 (fun k s => ∃ f3 v4, s = ⟨[.val (.int n), .own (.lst (f3.map tupI)), .val (.int i), .val (.int j), v4], G⟩ ∧ Is f3 (f2 ++ ((List.range k).filter fun (c : Nat) => decide (i ≠ j) && (decide (i ≠ c) && decide (j ≠ c))).map fun (c : Nat) => [(i : Int), (j : Int), (c : Int)])) ⟨f2, v4, rfl, by simp [Is]⟩ (by
        rintro k hk s ⟨f3, v4, rfl, hf3⟩
        have hk : k < n := by simpa [rngW] using hk
        have l3 : f3.length ≤ 36 * i + 6 * j + k := by
          rw [hf3.eq, List.length_append, List.length_map]
          have := List.length_filter_le (fun (c : Nat) => decide (i ≠ j) && (decide (i ≠ c) && decide (j ≠ c))) (List.range k)
          rw [List.length_range] at this
          omega
        have lz : f3.length < sz := small (by omega)
        have nI : ∀ {x y : Nat}, ¬ x = y → ¬ (x : Int) = y := fun h => by omega
        by_cases c1 : i = j
        · subst c1
          exact ⟨⟨[.val (.int n), .own (.lst (f3.map tupI)), .val (.int i), .val (.int i), .val (.int k)], G⟩, by simp [rngW, fNeD_i], f3, _, rfl, by rw [hf3.eq, List.range_succ, List.filter_append]; simp [Is]⟩
        · by_cases c2 : i = k
          · subst c2
            exact ⟨⟨[.val (.int n), .own (.lst (f3.map tupI)), .val (.int i), .val (.int j), .val (.int i)], G⟩, by simp [rngW, fNeD_i, nI c1], f3, _, rfl, by rw [hf3.eq, List.range_succ, List.filter_append]; simp [Is]⟩
          · by_cases c3 : j = k
            · subst c3
              exact ⟨⟨[.val (.int n), .own (.lst (f3.map tupI)), .val (.int i), .val (.int j), .val (.int j)], G⟩, by simp [rngW, fNeD_i, nI c1], f3, _, rfl, by rw [hf3.eq, List.range_succ, List.filter_append]; simp [Is]⟩
            · exact ⟨⟨[.val (.int n), .own (.lst ((f3 ++ [[(i : Int), (j : Int), (k : Int)]]).map tupI)), .val (.int i), .val (.int j), .val (.int k)], G⟩, by simp [rngW, fNeD_i, nI c1, nI c2, nI c3, fAppend, lz, h3, tupI], f3 ++ [[(i : Int), (j : Int), (k : Int)]], _, rfl, by rw [hf3.eq, List.range_succ, List.filter_append]; simp [Is, c1, c2, c3]⟩)
      refine ⟨_, rfl, f3, ⟨_, _, rfl⟩, ?_⟩
      rw [hf3.eq, hf2.eq, take_succ_range, List.append_assoc]
      simp [tripC, Is])
    refine ⟨_, rfl, f2, ⟨_, _, _, rfl⟩, ?_⟩
    rw [hf2.eq, hf1.eq, take_succ_range]
    simp [tripB, Is])
  rw [hf1.eq]
  simp [trip, rngW]
theorem fAdd_lists {a b : List W} (h : a.length + b.length ≤ sz) : fAdd (.lst a) (.lst b) = some (.newl (a ++ b)) := by
  unfold fAdd orf
  rw [show fI (fun i j => i + j) (.lst a) (.lst b) = none from rfl]
  simp only []
  rw [show fAddS (.lst a) (.lst b) = none from rfl]
  simp only []
  rw [show fAddL (.lst a) (.lst b) = some (.newl (a ++ b)) from by unfold fAddL; simp [h]]
theorem repW_one (w : W) : ∀ n, repW [w] n = List.replicate n w
  | 0 => rfl
  | n + 1 => by
    show (List.replicate (n + 1) [w]).flatten = _
    rw [List.replicate_succ, List.flatten_cons, List.replicate_succ]
    exact congrArg (List.cons w) (repW_one w n)
theorem fRepL_lst (ws : List W) (k : Int) (h : -(2 ^ 63) ≤ k ∧ k < 2 ^ 63 ∧ ws.length * k.toNat ≤ sz) : fRepL (.lst ws) (.int k) = some (.newl (repW ws k.toNat)) := by
  rw [fRepL]
  exact if_pos h
theorem fMul_rep (ws : List W) (k : Int) : fMul (.lst ws) (.int k) = fRepL (.lst ws) (.int k) := rfl
end Z
set_option linter.all false
set_option maxRecDepth 100000
set_option maxHeartbeats 1000000
namespace Z
open PySem PySem.Spec PyProof.Rows
open L2 hiding XE Takes CX takes_of passes_call passAt MkP PMk ps_raise mk_of ps_try_as ps_try_many pmk_own Takes.imp
open L2N
def bkC (ts : List (List Int)) : Cell := .ins "Book" [("rows", .dF (rowsD ts))]
@[simp high] theorem bkC_toW {ts : List (List Int)} : (bkC ts).toW = book ts := rfl
def BkR (G : List Cell) (w : W) (ts : List (List Int)) : Prop := w = book ts ∨ ∃ n, w = .ref n ∧ G[n]? = some (bkC ts)
theorem BkR.val {G : List Cell} {ts : List (List Int)} : BkR G (book ts) ts := .inl rfl
theorem BkR.at {G : List Cell} {n : Nat} {ts : List (List Int)} (h : G[n]? = some (bkC ts)) : BkR G (.ref n) ts := .inr ⟨n, rfl, h⟩
section
variable {G : List Cell} {w u : W} {ts us : List (List Int)} {xs : List W}
theorem BkR.deref (h : BkR G w ts) (r : List SV) : derefW ⟨r, G⟩ w = some (book ts) := by
  rcases h with rfl | ⟨n, rfl, h⟩
  · rfl
  · show (G[n]?).map Cell.toW = _
    rw [h]
    rfl
theorem BkR.look (h : BkR G w ts) (r : List SV) : look (.val w) ⟨r, G⟩ = some (.ok (book ts), ⟨r, G⟩) := by
  show (derefW ⟨r, G⟩ w).map _ = _
  rw [h.deref]
  rfl
theorem BkR.chk1 (h : BkR G w ts) (r : List SV) : chk1 "Book" (w :: xs) ⟨r, G⟩ = some (.ok (), ⟨r, G⟩) := by
  rw [chk1_e, h.deref]
  rfl
theorem BkR.own (h : BkR G w ts) (k : BkR G u us) (r : List SV) : chkO "Book" [.own "Book"] [w, u] ⟨r, G⟩ = some (.ok (), ⟨r, G⟩) := by
  rw [chkO_e, h.deref, k.deref]
  rfl
theorem BkR.push (h : BkR G w ts) (c : Cell) : BkR (G ++ [c]) w ts := by
  rcases h with rfl | ⟨n, rfl, h⟩
  · exact .inl rfl
  · exact .inr ⟨n, rfl, by rw [List.getElem?_append_left (get_lt h)]; exact h⟩
end
structure Cts (ts : List (List Int)) : Prop where
  sub : ∀ t ∈ ts, t ∈ every
  len : ts.length ≤ 1000
theorem Cts.ne {ts : List (List Int)} (h : Cts ts) : ∀ t ∈ ts, t ≠ [] := fun t m => every_ne (h.sub t m)
theorem Cts.sz {ts : List (List Int)} (h : Cts ts) : ts.length ≤ sz := by
  have := h.len
  show _ ≤ 16777216
  omega
theorem Cts.sz3 {ts : List (List Int)} (h : Cts ts) : ∀ t ∈ ts, t.length ≤ Z.sz := fun t m => by
  obtain ⟨a, b, c, rfl, _⟩ := every_mem (h.sub t m)
  show 3 ≤ 16777216
  omega
theorem cts_filter (p : List Int → Bool) : Cts (every.filter p) := ⟨fun t m => (List.mem_filter.mp m).1, by
  have := List.length_filter_le p every
  rw [every_length] at this
  omega⟩
theorem cts_nil : Cts [] := ⟨fun _ m => by simp at m, by simp⟩
theorem asc_of {l : List (List Int)} {p : List Int → Bool} (h : ∀ t, t ∈ l ↔ t ∈ every ∧ p t = true) : asc l = every.filter p := by
  unfold asc every
  rw [List.filter_filter]
  refine List.filter_congr fun t m => ?_
  rw [Bool.eq_iff_iff]
  simp only [decide_eq_true_eq, Bool.and_eq_true]
  rw [h t, every, List.mem_filter]
  constructor
  · rintro ⟨⟨_, a⟩, b⟩; exact ⟨b, a⟩
  · rintro ⟨a, b⟩; exact ⟨⟨m, b⟩, a⟩
theorem asc_cts (l : List (List Int)) (h : ∀ t ∈ l, t ∈ every) : Cts (asc l) := by
  have : asc l = every.filter fun t => decide (t ∈ l) := asc_of fun t => by
    simp only [decide_eq_true_eq]
    exact ⟨fun m => ⟨h t m, m⟩, fun m => m.2⟩
  rw [this]
  exact cts_filter _
def SeqR (G : List Cell) (R : W) (ws : List W) : Prop := R = .lst ws ∨ R = .tup ws ∨ ∃ m, R = .ref m ∧ G[m]? = some (.lst ws)
theorem SeqR.use {G : List Cell} {R : W} {ws : List W} (h : SeqR G R ws) : ∃ o, (∀ r, walkOf ⟨r, G⟩ R = some ⟨ws, o⟩) ∧ (∀ r, Wk.ok ⟨ws, o⟩ ⟨r, G⟩) := by
  rcases h with rfl | rfl | ⟨n, rfl, h⟩
  · exact ⟨none, fun _ => rfl, fun _ => trivial⟩
  · exact ⟨none, fun _ => rfl, fun _ => trivial⟩
  · exact ⟨some n, fun _ => by simp [h], fun _ => h⟩
theorem xr_ascending {R : W} (cs : List (List Int)) (hne : ∀ t ∈ cs, t ≠ []) (hl : cs.length ≤ 2000000) (G : List Cell) (hR : SeqR G R (cs.map tupI)) : m_ascending [R] G = some (.ok (.val (.dF (rowsD (asc cs)))), G) := by
  unfold m_ascending
  rw [fnM_e]
  have same : asc (cs.foldl addT []) = asc cs := by
    unfold asc
    refine List.filter_congr fun t _ => ?_
    rw [Bool.eq_iff_iff]
    simp [fold_mem]
  obtain ⟨o, k1, k2⟩ := hR.use
  have gv := fun x0 x1 x2 x4 x5 x6 => given_at (x0 := x0) (x1 := x1) (x2 := x2) (x4 := x4) (x5 := x5) (x6 := x6) (G := G) (k := ⟨cs.map tupI, o⟩) cs hne hl (k2 _)
  rw [← same]
  generalize cs.foldl addT [] = gs at gv
  have rl : Rl 0 6 := rl_nat (n := 6) (by omega)
  simp [b_ascending, k1, gv, rl, lvl1]
theorem xr_init {R : W} (cs : List (List Int)) (h : ∀ t ∈ cs, t ∈ every) (hl : cs.length ≤ 2000000) (n : Nat) (G : List Cell) (hR : SeqR G R (cs.map tupI)) (hn : G[n]? = some (.ins "Book" [])) : m_Book___init__ [.ref n, R] G = some (.ok (.val .non), G.set n (bkC (asc cs))) := by
  unfold m_Book___init__
  rw [fnM_e]
  obtain ⟨o, k1, k2⟩ := hR.use
  simp [b_Book___init__, k1]
  generalize hF : forL _ _ _ _ = F
  obtain ⟨s', rfl, v, rfl⟩ := forL_atK hF (fun i s => ∃ v, s = ⟨[.val (.ref n), .val R, v], G⟩) (by rintro i s ⟨v, rfl⟩; exact k2 _) ⟨_, rfl⟩ (by
    rintro i hi s ⟨v, rfl⟩
    have hi' : i < cs.length := by simpa using hi
    exact ⟨⟨[.val (.ref n), .val R, .val (tupI cs[i])], G⟩, by simp [x_is_count (h cs[i] (List.getElem_mem hi'))], _, rfl⟩)
  simp [xr_ascending cs (fun t ht => every_ne (h t ht)) hl G hR, hn, fn_rows]
  rfl
theorem SeqR.push {G : List Cell} {R : W} {ws : List W} (h : SeqR G R ws) (c : Cell) : SeqR (G ++ [c]) R ws := by
  rcases h with rfl | rfl | ⟨n, rfl, h⟩
  · exact .inl rfl
  · exact .inr (.inl rfl)
  · exact .inr (.inr ⟨n, rfl, by rw [List.getElem?_append_left (get_lt h)]; exact h⟩)
theorem xr_make {r : List SV} {G : List Cell} {R : W} (cs : List (List Int)) (c : Cts cs) (hR : SeqR G R (cs.map tupI)) : makeG "Book" m_Book___init__ [R] ⟨r, G⟩ = some (.ok (.own (bkC (asc cs))), ⟨r, G⟩) := by
  have e := xr_init cs c.sub (Nat.le_trans c.len (by decide)) G.length (G ++ [.ins "Book" []]) (hR.push _) (by simp)
  unfold makeG
  simp only []
  rw [e]
  simp [bkC, Cell.noRef, noRefF, noRef, noRef_rows]
theorem xr_make0 {r : List SV} {G : List Cell} : makeG "Book" m_Book___init__ [.tup []] ⟨r, G⟩ = some (.ok (.own (bkC [])), ⟨r, G⟩) := by
  have := xr_make (r := r) (G := G) (R := .tup []) [] cts_nil (.inr (.inl rfl))
  have e : asc [] = [] := by
    unfold asc
    rw [List.filter_eq_nil_iff]
    intro t _
    simp
  rw [e] at this
  exact this
section
variable {G : List Cell} {w u : W} {ts us : List (List Int)}
theorem xr_len (h : BkR G w ts) : m_Book___len__ [w] G = some (.ok (.val (.int ts.length)), G) := by
  unfold m_Book___len__
  rw [fnM_e]
  have L := h.look
  simp [b_Book___len__, L]
theorem xr_same (h : BkR G w ts) (c : Cts ts) : m__law_same_book [w, .lst (ts.map tupI)] G = some (.ok (.val (.bl true)), G) := by
  unfold m__law_same_book
  rw [fnM_e]
  have hz : ts.length ≤ Z.sz := c.sz
  have lk : Lk (ts.length : Int) := lk_nat (by have := c.len; omega)
  have i1 : (ts.length : Int) ≤ (Z.sz : Nat) := by exact_mod_cast hz
  have D := h.deref
  have C := fun r xs => h.chk1 (xs := xs) r
  simp [b__law_same_book, xr_len h, lk, x_is_int, fNeD_same, hz, x_same ts c.len c.sz3, D, C]
theorem xr_in (h : BkR G w ts) {t : List Int} (ht : t ≠ []) : m_Book___contains__ [w, tupI t] G = some (.ok (.val (.bl (decide (t ∈ ts)))), G) := by
  unfold m_Book___contains__
  rw [fnM_e]
  have L := h.look
  simp [b_Book___contains__, L, fIn_rowsT false ts ht]
theorem rowsD_keysT : (rowsD ts).map (fun p => keyW p.1) = ts.map tupI := rowsD_keys ts
theorem seq_at {a b : Mo Fl} {s s' : S} (h : a s = some (.ok .nx, s')) : mSeq a b s = b s' := bnd_at h
end
end Z
set_option linter.all false
set_option maxRecDepth 100000
set_option maxHeartbeats 2000000
namespace Z
open PySem PySem.Spec PyProof.Rows
open L2 hiding XE Takes CX takes_of passes_call passAt MkP PMk ps_raise mk_of ps_try_as ps_try_many pmk_own Takes.imp
open L2N
theorem every_of {a b c : Int} (ha : 0 ≤ a ∧ a < 6) (hb : 0 ≤ b ∧ b < 6) (hc : 0 ≤ c ∧ c < 6) (h1 : a ≠ b) (h2 : a ≠ c) (h3 : b ≠ c) : [a, b, c] ∈ every := by
  refine List.mem_filter.mpr ⟨?_, ?_⟩
  · simp only [cube, List.mem_flatMap, List.mem_map, List.mem_range]
    refine ⟨a.toNat, by omega, b.toNat, by omega, c.toNat, by omega, ?_⟩
    rw [Int.toNat_of_nonneg ha.1, Int.toNat_of_nonneg hb.1, Int.toNat_of_nonneg hc.1]
  · simp [okT, h1, h2, h3]
theorem every_iff {a b c : Int} : [a, b, c] ∈ every ↔ ((0 ≤ a ∧ a < 6) ∧ (0 ≤ b ∧ b < 6) ∧ (0 ≤ c ∧ c < 6)) ∧ a ≠ b ∧ a ≠ c ∧ b ≠ c := by
  constructor
  · intro h
    obtain ⟨x, y, z, e, h1, h2, h3, h4, h5, h6⟩ := every_mem h
    simp only [List.cons.injEq, and_true] at e
    obtain ⟨rfl, rfl, rfl⟩ := e
    omega
  · rintro ⟨⟨h1, h2, h3⟩, h4, h5, h6⟩
    exact every_of h1 h2 h3 h4 h5 h6
def inB (x : Int) : Bool := decide (0 ≤ x) && decide (x < 6)
theorem lc_in {x0 x1 x2 x3 : SV} {G : List Cell} (xs : List Int) (hl : xs.length ≤ sz) : lcL [4] (tgN 4) mYes (mChain fLe fLt (mC (.int 0)) (mName 4) (mC (.int 6))) ⟨xs.map W.int, none⟩ (xs.map W.int) [] ⟨[x0, x1, x2, x3, .non], G⟩ =
    some (.ok (.own (.lst (xs.map fun x => W.bl (inB x)))), ⟨[x0, x1, x2, x3, .non], G⟩) := by
  rw [lc_all (by exact trivial) (fun x => W.bl (inB x))]
  · simp
  · intro k hk
    refine ⟨⟨[x0, x1, x2, x3, .val (.int k)], G⟩, by simp, ⟨[x0, x1, x2, x3, .val (.int k)], G⟩, ?_, by simp⟩
    unfold inB
    by_cases h1 : 0 ≤ k
    · simp [h1]
    · simp [h1]
  · simpa using hl
theorem all_in (a b c : Int) : fAll [.lst [.bl (inB a), .bl (inB b), .bl (inB c)]] = some (.imm (.bl (inB a && (inB b && inB c)))) := by
  simp [fAll, blsOf]
def cnB (a b c : Int) : Bool := !(decide (a = b) || (decide (a = c) || decide (b = c))) && (inB a && (inB b && inB c))
theorem cnB_every (a b c : Int) : cnB a b c = decide ([a, b, c] ∈ every) := by
  rw [Bool.eq_iff_iff]
  simp only [cnB, inB, decide_eq_true_eq, every_iff, Bool.and_eq_true, Bool.not_eq_true', Bool.or_eq_false_iff, decide_eq_false_iff_not]
  constructor
  · rintro ⟨⟨h1, h2, h3⟩, h4, h5, h6⟩
    exact ⟨⟨h4, h5, h6⟩, h1, h2, h3⟩
  · rintro ⟨⟨h4, h5, h6⟩, h1, h2, h3⟩
    exact ⟨⟨h1, h2, h3⟩, h4, h5, h6⟩
theorem x_is_count3 (a b c : Int) (G : List Cell) : m_is_count [tupI [a, b, c]] G = some (.ok (.val (.bl (cnB a b c))), G) := by
  unfold m_is_count
  rw [fnM_e]
  have lc := lc_in (x0 := .val (.tup [.int a, .int b, .int c])) (x1 := .val (.int a)) (x2 := .val (.int b)) (x3 := .val (.int c)) (G := G) [a, b, c] (by show 3 ≤ 16777216; omega)
  have al := all_in a b c
  simp only [List.map_cons, List.map_nil] at lc
  unfold cnB
  by_cases h1 : a = b
  · simp [b_is_count, tupI, fNeD_same, fEqD_i, h1]
  · by_cases h2 : a = c
    · subst h2
      simp [b_is_count, tupI, fNeD_same, fEqD_i, h1]
    · by_cases h3 : b = c
      · subst h3
        simp [b_is_count, tupI, fNeD_same, fEqD_i, h1]
      · simp [b_is_count, tupI, fNeD_same, fEqD_i, h1, h2, h3, lc, al]
theorem x_lis_count3 (a b c : Int) (G : List Cell) : m__law_is_count [tupI [a, b, c]] G = some (.ok (.val (.bl (cnB a b c))), G) := by
  unfold m__law_is_count
  rw [fnM_e]
  have lc := lc_in (x0 := .val (.tup [.int a, .int b, .int c])) (x1 := .val (.int a)) (x2 := .val (.int b)) (x3 := .val (.int c)) (G := G) [a, b, c] (by show 3 ≤ 16777216; omega)
  have al := all_in a b c
  simp only [List.map_cons, List.map_nil] at lc
  unfold cnB
  by_cases h1 : a = b
  · simp [b__law_is_count, tupI, fEqD_i, h1]
  · by_cases h2 : a = c
    · subst h2
      simp [b__law_is_count, tupI, fEqD_i, h1]
    · by_cases h3 : b = c
      · subst h3
        simp [b__law_is_count, tupI, fEqD_i, h1]
      · simp [b__law_is_count, tupI, fEqD_i, h1, h2, h3, lc, al]
def Tri (t : List Int) : Prop := ∃ a b c, t = [a, b, c]
theorem x_is_countT {t : List Int} (h : Tri t) (G : List Cell) : m_is_count [tupI t] G = some (.ok (.val (.bl (decide (t ∈ every)))), G) := by
  obtain ⟨a, b, c, rfl⟩ := h
  rw [x_is_count3, cnB_every]
theorem x_lis_countT {t : List Int} (h : Tri t) (G : List Cell) : m__law_is_count [tupI t] G = some (.ok (.val (.bl (decide (t ∈ every)))), G) := by
  obtain ⟨a, b, c, rfl⟩ := h
  rw [x_lis_count3, cnB_every]
theorem bnd_bad {α β : Type} {m : Mo α} {k : α → Mo β} {s s' : S} {x : Ex} (h : m s = some (.error x, s')) : bnd m k s = some (.error x, s') := by
  unfold bnd
  rw [h]
theorem xr_bad {R : W} (cs : List (List Int)) (tri : ∀ t ∈ cs, Tri t) {b : List Int} (hb : (cs.filter fun t => !decide (t ∈ every)).head? = some b) (n : Nat) (G : List Cell) (hR : SeqR G R (cs.map tupI)) : m_Book___init__ [.ref n, R] G = some (.error ⟨"BadCount", [("triple", tupI b)]⟩, G) := by
  unfold m_Book___init__
  rw [fnM_e]
  obtain ⟨o, k1, k2⟩ := hR.use
  have z1 : (1 : Nat) ≤ 1000 := by decide
  have bd : ∀ t ∈ cs, ∀ v, (bnd (tgN 2 (tupI t)) fun _ => mIf (mNot (mB (mCall 1 m_is_count (mCons (mName 2) mNil)))) (mRaise "BadCount" ["triple"] (mCons (mName 2) mNil)) mNext) ⟨[.val (.ref n), .val R, v], G⟩ = if t ∈ every then some (.ok .nx, ⟨[.val (.ref n), .val R, .val (tupI t)], G⟩) else some (.error ⟨"BadCount", [("triple", tupI t)]⟩, ⟨[.val (.ref n), .val R, .val (tupI t)], G⟩) := fun t m v => by
    have c := x_is_countT (tri t m) G
    obtain ⟨a, b, c', rfl⟩ := tri t m
    by_cases q : [a, b, c'] ∈ every
    · rw [if_pos q]
      rw [decide_eq_true q] at c
      simp [c]
    · rw [if_neg q]
      rw [decide_eq_false q] at c
      simp [c, mRaise]
  have loop : ∀ (l : List (List Int)) (v : SV), (∀ t ∈ l, t ∈ cs) → (l.filter fun t => !decide (t ∈ every)).head? = some b → ∃ s', forL ⟨cs.map tupI, o⟩ (l.map tupI) (fun w => bnd (tgN 2 w) fun _ => mIf (mNot (mB (mCall 1 m_is_count (mCons (mName 2) mNil)))) (mRaise "BadCount" ["triple"] (mCons (mName 2) mNil)) mNext) ⟨[.val (.ref n), .val R, v], G⟩ = some (.error ⟨"BadCount", [("triple", tupI b)]⟩, s') ∧ s'.G = G := by
    intro l
    induction l with
    | nil => intro v _ h; cases h
    | cons t l ih =>
      intro v hm h
      have e := bd t (hm t List.mem_cons_self) v
      by_cases q : t ∈ every
      · rw [if_pos q] at e
        rw [List.filter_cons_of_neg (by simpa using q)] at h
        obtain ⟨s', e2, g⟩ := ih (.val (tupI t)) (fun x hx => hm x (List.mem_cons_of_mem _ hx)) h
        refine ⟨s', ?_, g⟩
        rw [← e2]
        show forL _ (tupI t :: l.map tupI) _ _ = _
        conv => lhs; unfold forL
        exact (if_pos (k2 _)).trans (bnd_at e)
      · rw [if_neg q] at e
        rw [List.filter_cons_of_pos (by simpa using q)] at h
        obtain rfl : t = b := by simpa using h
        refine ⟨⟨[.val (.ref n), .val R, .val (tupI t)], G⟩, ?_, rfl⟩
        show forL _ (tupI t :: l.map tupI) _ _ = _
        unfold forL
        exact (if_pos (k2 _)).trans (bnd_bad e)
  obtain ⟨⟨r', G'⟩, e, rfl⟩ := loop cs .non (fun _ h => h) hb
  simp [b_Book___init__, k1, e]
theorem xr_badmake {r : List SV} {G : List Cell} {R : W} (cs : List (List Int)) (tri : ∀ t ∈ cs, Tri t) {b : List Int} (hb : (cs.filter fun t => !decide (t ∈ every)).head? = some b) (hR : SeqR G R (cs.map tupI)) : ∃ G', makeG "Book" m_Book___init__ [R] ⟨r, G⟩ = some (.error ⟨"BadCount", [("triple", tupI b)]⟩, ⟨r, G'⟩) := by
  have e := xr_bad cs tri hb G.length (G ++ [.ins "Book" []]) (hR.push _)
  unfold makeG
  simp only []
  rw [e]
  obtain ⟨x, y, z, rfl⟩ : Tri b := tri b (by
    have := List.mem_of_mem_head? hb
    exact (List.mem_filter.mp this).1)
  refine ⟨G, ?_⟩
  simp [noRefF, noRef, noRefs, tupI]
end Z
set_option linter.all false
set_option maxRecDepth 100000
set_option maxHeartbeats 2000000
namespace Z
open PySem PySem.Spec PyProof.Rows
open L2 hiding XE Takes CX takes_of passes_call passAt MkP PMk ps_raise mk_of ps_try_as ps_try_many pmk_own Takes.imp
open L2N
theorem pop_at {L : List Int} {d : Int} (h : 0 < L.length) (hl : L.length ≤ 100) : ∃ (x : Int) (L' : List Int), fPop (.lst (L.map W.int)) [.int (d % (L.length : Int))] = some (.int x, .lst (L'.map W.int)) ∧ L'.length + 1 = L.length := by
  have m0 : 0 ≤ d % (L.length : Int) := Int.emod_nonneg _ (by omega)
  have m1 : d % (L.length : Int) < (L.length : Int) := Int.emod_lt_of_pos _ (by omega)
  obtain ⟨i, hi⟩ := Int.eq_ofNat_of_zero_le m0
  rw [hi] at m1 ⊢
  have il : i < L.length := by omega
  refine ⟨L[i], L.eraseIdx i, ?_, by rw [List.length_eraseIdx_of_lt il]; omega⟩
  have ix : ixN (L.map W.int).length (i : Int) = some i := by
    unfold ixN
    rw [List.length_map]
    simp
    omega
  unfold fPop
  dsimp only
  rw [if_pos (by omega), ix]
  simp only [List.getElem?_map, List.getElem?_eq_getElem il, Option.map_some, List.eraseIdx_eq_take_drop_succ, List.map_append, List.map_take, List.map_drop]
theorem x_triple (loose : Bool) (d0 d1 d2 far : Int) (h0 : 0 ≤ d0 ∧ d0 < 9) (h1 : 0 ≤ d1 ∧ d1 < 9) (h2 : 0 ≤ d2 ∧ d2 < 9) (G : List Cell) : ∃ t : List Int, Tri t ∧ m__law_triple [.bl loose, .lst [.int d0, .int d1, .int d2], .int far] G = some (.ok (.val (tupI t)), G) := by
  unfold m__law_triple
  rw [fnM_o]
  have ft : ∀ l : List W, fTuple [.lst l] = some (.newt l) := fun _ => rfl
  cases loose with
  | true =>
    have z9 : 9 ≤ sz := by decide
    have ng : fNeg (.int 1) = some (.imm (.int (-1))) := rfl
    let tb : List Int := [0, 1, 2, 3, 4, 5, 6 + far, -1 - far, 6]
    have at_ : ∀ d : Int, 0 ≤ d ∧ d < 9 → atI [W.int 0, .int 1, .int 2, .int 3, .int 4, .int 5, .int (6 + far), .int (-1 - far), .int 6] d = some (.int (tb.getD d.toNat 0)) := fun d hd => by
      obtain ⟨n, rfl⟩ := Int.eq_ofNat_of_zero_le hd.1
      have hn : n < 9 := by omega
      refine atI_nat ?_
      rw [Int.toNat_natCast]
      match n, hn with
      | 0, _ => rfl
      | 1, _ => rfl
      | 2, _ => rfl
      | 3, _ => rfl
      | 4, _ => rfl
      | 5, _ => rfl
      | 6, _ => rfl
      | 7, _ => rfl
      | 8, _ => rfl
    have lc := lc_all (s := ⟨[.val (.bl true), .val (.lst [.int d0, .int d1, .int d2]), .val (.int far), .non, .non, .non], G⟩) (k := ⟨[d0, d1, d2].map W.int, none⟩) (vs := [5]) (t := tgN 5) (tt := mYes) (me := mBin fIx (mLst (mCons (mC (.int 0)) (mCons (mC (.int 1)) (mCons (mC (.int 2)) (mCons (mC (.int 3)) (mCons (mC (.int 4)) (mCons (mC (.int 5)) (mCons (mBin fAdd (mC (.int 6)) (mName 2)) (mCons (mBin fSub (mUn fNeg (mC (.int 1))) (mName 2)) (mCons (mC (.int 6)) mNil)))))))))) (mName 5)) (e := W.int) (by exact trivial) (fun d => .int (tb.getD d.toNat 0)) [d0, d1, d2] [] (by
      intro d hd
      have hd : 0 ≤ d ∧ d < 9 := by
        simp at hd
        rcases hd with rfl | rfl | rfl <;> assumption
      have a := at_ d hd
      generalize W.int (tb.getD d.toNat 0) = V at *
      exact ⟨⟨[.val (.bl true), .val (.lst [.int d0, .int d1, .int d2]), .val (.int far), .non, .non, .val (.int d)], G⟩, by simp, ⟨[.val (.bl true), .val (.lst [.int d0, .int d1, .int d2]), .val (.int far), .non, .non, .val (.int d)], G⟩, by simp [z9, ng, a], by simp⟩) (by show 3 ≤ 16777216; omega)
    simp only [List.map_cons, List.map_nil, List.nil_append] at lc
    refine ⟨[tb.getD d0.toNat 0, tb.getD d1.toNat 0, tb.getD d2.toNat 0], ⟨_, _, _, rfl⟩, ?_⟩
    simp [b__law_triple, truW, lc, ft, tupI, outF]
  | false =>
    have lp : ∀ F, forL ⟨[W.int d0, .int d1, .int d2], none⟩ [W.int d0, .int d1, .int d2] (fun w => bnd (tgN 5 w) fun _ => mDrop (mMut .lst fAppend (mName 4) (mCons (mMut .lst fPop (mName 3) (mCons (mBin fMod (mCB fInt1 (mCons (mName 5) mNil)) (mCB fLen (mCons (mName 3) mNil))) mNil)) mNil))) ⟨[.val (.bl false), .val (.lst [.int d0, .int d1, .int d2]), .val (.int far), .own (.lst ([0, 1, 2, 3, 4, 5].map W.int)), .own (.lst []), .non], G⟩ = F → ∃ (a b c : Int) (L : List W) (v5 : SV), F = some (.ok .nx, ⟨[.val (.bl false), .val (.lst [.int d0, .int d1, .int d2]), .val (.int far), .own (.lst L), .own (.lst [.int a, .int b, .int c]), v5], G⟩) := by
      intro F hF
      obtain ⟨s', e, L, A, v5, hL, hA, rfl⟩ := forL_at hF (fun j st => ∃ (L A : List Int) (v5 : SV), L.length + j = 6 ∧ A.length = j ∧ st = ⟨[.val (.bl false), .val (.lst [.int d0, .int d1, .int d2]), .val (.int far), .own (.lst (L.map W.int)), .own (.lst (A.map W.int)), v5], G⟩) ⟨[0, 1, 2, 3, 4, 5], [], _, rfl, rfl, rfl⟩ (by
        rintro j hj st ⟨L, A, v5, hL, hA, rfl⟩
        have hj : j < 3 := hj
        obtain ⟨d, ed⟩ : ∃ d : Int, [W.int d0, .int d1, .int d2][j]'hj = .int d := by
          match j, hj with
          | 0, _ => exact ⟨_, rfl⟩
          | 1, _ => exact ⟨_, rfl⟩
          | 2, _ => exact ⟨_, rfl⟩
        rw [ed]
        obtain ⟨x, L', ep, hL'⟩ := pop_at (L := L) (d := d) (by omega) (by omega)
        have lz : (A.map W.int).length < sz := by rw [List.length_map]; show _ < 16777216; omega
        have ln : (((L.map W.int).length : Nat) : Int) = (L.length : Int) := by rw [List.length_map]
        have l0 : (0 : Int) < (L.length : Int) := by omega
        have l1 : 0 < L.length := by omega
        have f1 : fInt1 [.int d] = some (.imm (.int d)) := rfl
        refine ⟨⟨[.val (.bl false), .val (.lst [.int d0, .int d1, .int d2]), .val (.int far), .own (.lst (L'.map W.int)), .own (.lst ((A ++ [x]).map W.int)), .val (.int d)], G⟩, ?_, L', A ++ [x], _, by omega, by rw [List.length_append, hA]; rfl, rfl⟩
        rw [List.map_append]
        have e1 : [x].map W.int = [.int x] := rfl
        rw [e1]
        generalize L'.map W.int = M' at *
        generalize L.map W.int = M at *
        generalize A.map W.int = AA at *
        simp [f1, ln, l0, l1, ep, fAppend, lz])
      have h3 : A.length = 3 := hA
      match A, h3 with
      | [a, b, c], _ => exact ⟨a, b, c, _, v5, e⟩
    obtain ⟨a, b, c, L, v5, e⟩ := lp _ rfl
    have rl : fLr1 (.int 6) = some (.newl ([0, 1, 2, 3, 4, 5].map W.int)) := by
      show (if Rl 0 6 then _ else none) = _
      have r6 : Rl 0 6 := rl_nat (n := 6) (by omega)
      rw [if_pos r6]
      rfl
    generalize ([0, 1, 2, 3, 4, 5] : List Int).map W.int = RG at *
    refine ⟨[a, b, c], ⟨_, _, _, rfl⟩, ?_⟩
    simp [b__law_triple, truW, rl, e, ft, tupI, outF]
end Z
set_option linter.all false
set_option maxRecDepth 100000
set_option maxHeartbeats 4000000
namespace Z
open PySem PySem.Spec PyProof.Rows
open L2 hiding XE Takes CX takes_of passes_call passAt MkP PMk ps_raise mk_of ps_try_as ps_try_many pmk_own Takes.imp
open L2N
section
variable {ts : List (List Int)} {G : List Cell} {far : Int}
theorem in_book (a b c : Int) (G : List Cell) : m_Book___contains__ [book ts, .tup [.int a, .int b, .int c]] G = some (.ok (.val (.bl (decide ([a, b, c] ∈ ts)))), G) := xr_in (t := [a, b, c]) .val (by simp)
theorem in_due (a b c : Int) : fIn false (.tup [.int a, .int b, .int c]) (.lst (ts.map tupI)) = some (.imm (.bl (decide ([a, b, c] ∈ ts)))) := (fIn_lst emb_row (by decide) false [a, b, c] ts).trans (by simp)
theorem same_bl (b : Bool) : fNeD (.bl b) (.bl b) = some (.imm (.bl false)) := by
  unfold fNeD eqP
  simp [toPD, SeqAt.shaped, PyData.canLay0, PyData.depth, PyData.eqv]
theorem lk1 {b6 t4 t7 : SV} (a b c : Int) : (bnd (tgN 7 (.int c)) fun _ => (mIf (mB (mBin fNeD (mBinS (mIn2 false "Book" m_Book___contains__) (mTup (mCons (mName 3) (mCons (mName 5) (mCons (mName 7) mNil)))) (mName 0)) (mBin (fIn false) (mTup (mCons (mName 3) (mCons (mName 5) (mCons (mName 7) mNil)))) (mName 1)))) (mRet (mC (.bl false))) mNext)) ⟨[.val (book ts), .val (.lst (ts.map tupI)), .val (.int far), .val (.int a), t4, .val (.int b), b6, t7], G⟩ = some (.ok .nx, ⟨[.val (book ts), .val (.lst (ts.map tupI)), .val (.int far), .val (.int a), t4, .val (.int b), b6, .val (.int c)], G⟩) := by
  have z3 : 3 ≤ sz := by decide
  have ib := in_book (ts := ts) a b c G
  have id := in_due (ts := ts) a b c
  have sb := same_bl (decide ([a, b, c] ∈ ts))
  generalize decide ([a, b, c] ∈ ts) = bb at *
  generalize hT : ts.map tupI = TT at *
  have ck : ∀ x y : W, chk1 "Book" (book ts :: [x]) ⟨[.val (book ts), .val (.lst TT), .val (.int far), .val (.int a), t4, .val (.int b), b6, .val (.int c)], G⟩ = some (.ok (), ⟨[.val (book ts), .val (.lst TT), .val (.int far), .val (.int a), t4, .val (.int b), b6, .val (.int c)], G⟩) := fun _ _ => chk1_book
  simp [z3, ib, id, sb]
theorem lk_in : ∀ (l : List W) (ws0 : List W) {c3 t4 s5 b6 t7 : SV} {a b : Int}, (∀ w ∈ l, ∃ c : Int, w = .int c) → c3 = .val (.int a) → s5 = .val (.int b) → ∃ t7', forL ⟨ws0, none⟩ l (fun w => bnd (tgN 7 w) fun _ => (mIf (mB (mBin fNeD (mBinS (mIn2 false "Book" m_Book___contains__) (mTup (mCons (mName 3) (mCons (mName 5) (mCons (mName 7) mNil)))) (mName 0)) (mBin (fIn false) (mTup (mCons (mName 3) (mCons (mName 5) (mCons (mName 7) mNil)))) (mName 1)))) (mRet (mC (.bl false))) mNext)) ⟨[.val (book ts), .val (.lst (ts.map tupI)), .val (.int far), c3, t4, s5, b6, t7], G⟩ = some (.ok .nx, ⟨[.val (book ts), .val (.lst (ts.map tupI)), .val (.int far), c3, t4, s5, b6, t7'], G⟩)
  | [], ws0, c3, t4, s5, b6, t7, a, b, _, _, _ => ⟨t7, if_pos trivial⟩
  | w :: l, ws0, c3, t4, s5, b6, t7, a, b, h, h3, h5 => by
    obtain ⟨c, rfl⟩ := h w List.mem_cons_self
    subst h3
    subst h5
    obtain ⟨t7', e⟩ := lk_in l ws0 (t4 := t4) (b6 := b6) (t7 := .val (.int c)) (fun w hw => h w (List.mem_cons_of_mem _ hw)) rfl rfl
    refine ⟨t7', ?_⟩
    rw [← e]
    conv => lhs; unfold forL
    exact (if_pos trivial).trans (bnd_at (lk1 a b c))
theorem rng_int {lo : Int} {n : Nat} : ∀ w ∈ rngW lo n, ∃ c : Int, w = .int c := fun w hw => by
  obtain ⟨k, -, rfl⟩ := List.mem_map.mp hw
  exact ⟨_, rfl⟩
theorem r87 : Rk (-1) ∧ Rk 7 := ⟨by unfold Rk; omega, by unfold Rk; omega⟩
theorem it_87 {st : List SV} {G : List Cell} : mRng2 (mCons (mUn fNeg (mC (.int 1))) (mCons (mC (.int 7)) mNil)) ⟨st, G⟩ = some (.ok ⟨rngW (-1) 8, none⟩, ⟨st, G⟩) := by
  have ng : fNeg (.int 1) = some (.imm (.int (-1))) := rfl
  simp [ng, r87]
theorem lk_mid {lp : Mo Fl} (hl : ∀ (c3 t4 s5 b6 t7 : SV) (a b : Int), c3 = .val (.int a) → s5 = .val (.int b) → ∃ t7', lp ⟨[.val (book ts), .val (.lst (ts.map tupI)), .val (.int far), c3, t4, s5, b6, t7], G⟩ = some (.ok .nx, ⟨[.val (book ts), .val (.lst (ts.map tupI)), .val (.int far), c3, t4, s5, b6, t7'], G⟩)) : ∀ (l : List W) (ws0 : List W) {c3 t4 s5 b6 t7 : SV} {a : Int}, (∀ w ∈ l, ∃ c : Int, w = .int c) → c3 = .val (.int a) → ∃ s5' t7', forL ⟨ws0, none⟩ l (fun w => bnd (tgN 5 w) fun _ => lp) ⟨[.val (book ts), .val (.lst (ts.map tupI)), .val (.int far), c3, t4, s5, b6, t7], G⟩ = some (.ok .nx, ⟨[.val (book ts), .val (.lst (ts.map tupI)), .val (.int far), c3, t4, s5', b6, t7'], G⟩)
  | [], ws0, c3, t4, s5, b6, t7, a, _, _ => ⟨s5, t7, if_pos trivial⟩
  | w :: l, ws0, c3, t4, s5, b6, t7, a, h, h3 => by
    obtain ⟨c, rfl⟩ := h w List.mem_cons_self
    obtain ⟨t7', e1⟩ := hl c3 t4 (.val (.int c)) b6 t7 a c h3 rfl
    obtain ⟨s5', t7'', e⟩ := lk_mid hl l ws0 (c3 := c3) (t4 := t4) (s5 := .val (.int c)) (b6 := b6) (t7 := t7') (fun w hw => h w (List.mem_cons_of_mem _ hw)) h3
    refine ⟨s5', t7'', ?_⟩
    rw [← e]
    conv => lhs; unfold forL
    have e2 : (bnd (tgN 5 (.int c)) fun _ => lp) ⟨[.val (book ts), .val (.lst (ts.map tupI)), .val (.int far), c3, t4, s5, b6, t7], G⟩ = some (.ok .nx, ⟨[.val (book ts), .val (.lst (ts.map tupI)), .val (.int far), c3, t4, .val (.int c), b6, t7'], G⟩) := e1
    exact (if_pos trivial).trans (bnd_at e2)
theorem lk_out {lp : Mo Fl} (hl : ∀ (c3 t4 s5 b6 t7 : SV) (a : Int), c3 = .val (.int a) → ∃ s5' t7', lp ⟨[.val (book ts), .val (.lst (ts.map tupI)), .val (.int far), c3, t4, s5, b6, t7], G⟩ = some (.ok .nx, ⟨[.val (book ts), .val (.lst (ts.map tupI)), .val (.int far), c3, t4, s5', b6, t7'], G⟩)) : ∀ (l : List W) (ws0 : List W) {c3 t4 s5 b6 t7 : SV}, (∀ w ∈ l, ∃ c : Int, w = .int c) → ∃ c3' s5' t7', forL ⟨ws0, none⟩ l (fun w => bnd (tgN 3 w) fun _ => lp) ⟨[.val (book ts), .val (.lst (ts.map tupI)), .val (.int far), c3, t4, s5, b6, t7], G⟩ = some (.ok .nx, ⟨[.val (book ts), .val (.lst (ts.map tupI)), .val (.int far), c3', t4, s5', b6, t7'], G⟩)
  | [], ws0, c3, t4, s5, b6, t7, _ => ⟨c3, s5, t7, if_pos trivial⟩
  | w :: l, ws0, c3, t4, s5, b6, t7, h => by
    obtain ⟨c, rfl⟩ := h w List.mem_cons_self
    obtain ⟨s5', t7', e1⟩ := hl (.val (.int c)) t4 s5 b6 t7 c rfl
    obtain ⟨c3', s5'', t7'', e⟩ := lk_out hl l ws0 (c3 := .val (.int c)) (t4 := t4) (s5 := s5') (b6 := b6) (t7 := t7') (fun w hw => h w (List.mem_cons_of_mem _ hw))
    refine ⟨c3', s5'', t7'', ?_⟩
    rw [← e]
    conv => lhs; unfold forL
    have e2 : (bnd (tgN 3 (.int c)) fun _ => lp) ⟨[.val (book ts), .val (.lst (ts.map tupI)), .val (.int far), c3, t4, s5, b6, t7], G⟩ = some (.ok .nx, ⟨[.val (book ts), .val (.lst (ts.map tupI)), .val (.int far), .val (.int c), t4, s5', b6, t7'], G⟩) := e1
    exact (if_pos trivial).trans (bnd_at e2)
theorem bases : ∀ w ∈ [W.int 6, .int 7, .int 8, .int 10, .int 16, .int 100], ∃ b : Int, w = .int b ∧ 6 ≤ b := fun w hw => by
  simp at hw
  rcases hw with rfl | rfl | rfl | rfl | rfl | rfl <;> exact ⟨_, rfl, by omega⟩
noncomputable def lkB : Mo Fl := (mSeq (mAsgT (tgT 3 (tgsCons (tgN 3) (tgsCons (tgN 5) (tgsCons (tgN 7) tgsNil)))) (mName 4)) (mIf (mOr (mB (mBinS (mIn2 false "Book" m_Book___contains__) (mTup (mCons (mName 3) (mCons (mBin fSub (mName 5) (mC (.int 1))) (mCons (mBin fAdd (mName 7) (mName 6)) mNil)))) (mName 0))) (mB (mBinS (mIn2 false "Book" m_Book___contains__) (mTup (mCons (mBin fSub (mName 3) (mC (.int 1))) (mCons (mBin fAdd (mName 5) (mName 6)) (mCons (mName 7) mNil)))) (mName 0)))) (mRet (mC (.bl false))) mNext))
theorem lk_base (c : Cts ts) {t : List Int} (ht : t ∈ ts) : ∀ (l ws0 : List W) {c3 s5 b6 t7 : SV}, (∀ w ∈ l, ∃ b : Int, w = .int b ∧ 6 ≤ b) → ∃ c3' s5' b6' t7', forL ⟨ws0, none⟩ l (fun w => bnd (tgN 6 w) fun _ => lkB) ⟨[.val (book ts), .val (.lst (ts.map tupI)), .val (.int far), c3, .val (tupI t), s5, b6, t7], G⟩ = some (.ok .nx, ⟨[.val (book ts), .val (.lst (ts.map tupI)), .val (.int far), c3', .val (tupI t), s5', b6', t7'], G⟩)
  | [], ws0, c3, s5, b6, t7, _ => ⟨c3, s5, b6, t7, if_pos trivial⟩
  | w :: l, ws0, c3, s5, b6, t7, h => by
    obtain ⟨b, rfl, hb⟩ := h w List.mem_cons_self
    obtain ⟨x, y, z, rfl, h1, h2, h3, -⟩ := every_mem (c.sub t ht)
    have n1 : decide ([(x : Int), (y : Int) - 1, (z : Int) + b] ∈ ts) = false := decide_eq_false fun m => by
      have := every_iff.mp (c.sub _ m)
      omega
    have n2 : decide ([(x : Int) - 1, (y : Int) + b, (z : Int)] ∈ ts) = false := decide_eq_false fun m => by
      have := every_iff.mp (c.sub _ m)
      omega
    have i1 := in_book (ts := ts) (x : Int) ((y : Int) - 1) ((z : Int) + b) G
    have i2 := in_book (ts := ts) ((x : Int) - 1) ((y : Int) + b) (z : Int) G
    rw [n1] at i1
    rw [n2] at i2
    have z3 : 3 ≤ sz := by decide
    have one : (bnd (tgN 6 (.int b)) fun _ => lkB) ⟨[.val (book ts), .val (.lst (ts.map tupI)), .val (.int far), c3, .val (tupI [(x : Int), (y : Int), (z : Int)]), s5, b6, t7], G⟩ = some (.ok .nx, ⟨[.val (book ts), .val (.lst (ts.map tupI)), .val (.int far), .val (.int (x : Int)), .val (tupI [(x : Int), (y : Int), (z : Int)]), .val (.int (y : Int)), .val (.int b), .val (.int (z : Int))], G⟩) := by
      have te : tupI [(x : Int), (y : Int), (z : Int)] = .tup [.int (x : Int), .int (y : Int), .int (z : Int)] := rfl
      rw [te]
      generalize ts.map tupI = TT
      simp [lkB, z3, i1, i2]
    obtain ⟨c3', s5', b6', t7', e⟩ := lk_base c ht l ws0 (c3 := .val (.int (x : Int))) (s5 := .val (.int (y : Int))) (b6 := .val (.int b)) (t7 := .val (.int (z : Int))) (fun w hw => h w (List.mem_cons_of_mem _ hw))
    refine ⟨c3', s5', b6', t7', ?_⟩
    rw [← e]
    conv => lhs; unfold forL
    exact (if_pos trivial).trans (bnd_at one)
theorem lk_due (c : Cts ts) {lp : Mo Fl} (hl : ∀ (t : List Int) (c3 s5 b6 t7 : SV), t ∈ ts → ∃ c3' s5' b6' t7', lp ⟨[.val (book ts), .val (.lst (ts.map tupI)), .val (.int far), c3, .val (tupI t), s5, b6, t7], G⟩ = some (.ok .nx, ⟨[.val (book ts), .val (.lst (ts.map tupI)), .val (.int far), c3', .val (tupI t), s5', b6', t7'], G⟩)) : ∀ (l : List (List Int)) (ws0 : List W) {c3 t4 s5 b6 t7 : SV}, (∀ t ∈ l, t ∈ ts) → ∃ c3' t4' s5' b6' t7', forL ⟨ws0, none⟩ (l.map tupI) (fun w => bnd (tgN 4 w) fun _ => lp) ⟨[.val (book ts), .val (.lst (ts.map tupI)), .val (.int far), c3, t4, s5, b6, t7], G⟩ = some (.ok .nx, ⟨[.val (book ts), .val (.lst (ts.map tupI)), .val (.int far), c3', t4', s5', b6', t7'], G⟩)
  | [], ws0, c3, t4, s5, b6, t7, _ => ⟨c3, t4, s5, b6, t7, if_pos trivial⟩
  | t :: l, ws0, c3, t4, s5, b6, t7, h => by
    obtain ⟨c3', s5', b6', t7', e1⟩ := hl t c3 s5 b6 t7 (h t List.mem_cons_self)
    obtain ⟨c3'', t4'', s5'', b6'', t7'', e⟩ := lk_due c hl l ws0 (c3 := c3') (t4 := .val (tupI t)) (s5 := s5') (b6 := b6') (t7 := t7') (fun x hx => h x (List.mem_cons_of_mem _ hx))
    refine ⟨c3'', t4'', s5'', b6'', t7'', ?_⟩
    rw [← e]
    show forL _ (tupI t :: l.map tupI) _ _ = _
    conv => lhs; unfold forL
    have e2 : (bnd (tgN 4 (tupI t)) fun _ => lp) ⟨[.val (book ts), .val (.lst (ts.map tupI)), .val (.int far), c3, t4, s5, b6, t7], G⟩ = some (.ok .nx, ⟨[.val (book ts), .val (.lst (ts.map tupI)), .val (.int far), c3', .val (tupI t), s5', b6', t7'], G⟩) := e1
    exact (if_pos trivial).trans (bnd_at e2)
theorem x_looks (c : Cts ts) (hf : 0 ≤ far) (G : List Cell) : m__law_looks [book ts, .lst (ts.map tupI), .int far] G = some (.ok (.val (.bl true)), G) := by
  have sb := xr_same (G := G) (w := book ts) .val c
  have sr := x_same ts (by have := c.len; omega) c.sz3 G
  unfold m__law_looks
  rw [fnM_o]
  have lit : mIterO "Book" "rows" (mName 0) ⟨[.val (book ts), .val (.lst (ts.map tupI)), .val (.int far), .non, .non, .non, .non, .non], G⟩ = some (.ok ⟨ts.map tupI, none⟩, ⟨[.val (book ts), .val (.lst (ts.map tupI)), .val (.int far), .non, .non, .non, .non, .non], G⟩) := by
    have k := rowsD_keysT (ts := ts)
    have f : fldD "Book" "rows" (book ts) = some (rowsD ts) := by simp [fldD, book]
    generalize ts.map tupI = TT at *
    unfold mIterO
    rw [bnd_at (show mName 0 _ = some (.ok (.val (book ts)), _) from rfl), bnd_at (show look (settle (.val (book ts))) _ = some (.ok (book ts), _) from look_book)]
    rw [f]
    refine Eq.trans (b := some (Except.ok (⟨(rowsD ts).map (fun p => keyW p.1), none⟩ : Wk), _)) rfl ?_
    rw [k]
  have lc : lcL [4] (tgN 4) mYes (mName 4) ⟨ts.map tupI, none⟩ (ts.map tupI) [] ⟨[.val (book ts), .val (.lst (ts.map tupI)), .val (.int far), .non, .non, .non, .non, .non], G⟩ = some (.ok (.own (.lst (ts.map tupI))), ⟨[.val (book ts), .val (.lst (ts.map tupI)), .val (.int far), .non, .non, .non, .non, .non], G⟩) := by
    have := lc_all (s := ⟨[.val (book ts), .val (.lst (ts.map tupI)), .val (.int far), .non, .non, .non, .non, .non], G⟩) (k := ⟨ts.map tupI, none⟩) (vs := [4]) (t := tgN 4) (tt := mYes) (me := mName 4) (e := tupI) (by exact trivial) tupI ts [] (fun x _ => by
      have lk : freeze (.val (tupI x)) ⟨[.val (book ts), .val (.lst (ts.map tupI)), .val (.int far), .non, .val (tupI x), .non, .non, .non], G⟩ = some (.ok (tupI x), ⟨[.val (book ts), .val (.lst (ts.map tupI)), .val (.int far), .non, .val (tupI x), .non, .non, .non], G⟩) := rfl
      exact ⟨⟨[.val (book ts), .val (.lst (ts.map tupI)), .val (.int far), .non, .val (tupI x), .non, .non, .non], G⟩, by simp, ⟨[.val (book ts), .val (.lst (ts.map tupI)), .val (.int far), .non, .val (tupI x), .non, .non, .non], G⟩, by simp [lk], by simp⟩) (by have := c.len; simp; show _ ≤ 16777216; omega)
    simpa using this
  have rng : ∀ (i : Nat) (b : Mo Fl) (s : S), mFor (mRng2 (mCons (mUn fNeg (mC (.int 1))) (mCons (mC (.int 7)) mNil))) (tgN i) b s = forL ⟨rngW (-1) 8, none⟩ (rngW (-1) 8) (fun w => bnd (tgN i w) fun _ => b) s := fun i b s => by
    show bnd _ _ _ = _
    rw [bnd_at it_87]
  have p3 : ∀ (c3 t4 s5 b6 t7 : SV) (a b : Int), c3 = .val (.int a) → s5 = .val (.int b) → ∃ t7', (mFor (mRng2 (mCons (mUn fNeg (mC (.int 1))) (mCons (mC (.int 7)) mNil))) (tgN 7) (mIf (mB (mBin fNeD (mBinS (mIn2 false "Book" m_Book___contains__) (mTup (mCons (mName 3) (mCons (mName 5) (mCons (mName 7) mNil)))) (mName 0)) (mBin (fIn false) (mTup (mCons (mName 3) (mCons (mName 5) (mCons (mName 7) mNil)))) (mName 1)))) (mRet (mC (.bl false))) mNext)) ⟨[.val (book ts), .val (.lst (ts.map tupI)), .val (.int far), c3, t4, s5, b6, t7], G⟩ = some (.ok .nx, ⟨[.val (book ts), .val (.lst (ts.map tupI)), .val (.int far), c3, t4, s5, b6, t7'], G⟩) := fun c3 t4 s5 b6 t7 a b h3 h5 => by
    rw [rng]
    exact lk_in _ _ rng_int h3 h5
  have p2 : ∀ (c3 t4 s5 b6 t7 : SV) (a : Int), c3 = .val (.int a) → ∃ s5' t7', (mFor (mRng2 (mCons (mUn fNeg (mC (.int 1))) (mCons (mC (.int 7)) mNil))) (tgN 5) (mFor (mRng2 (mCons (mUn fNeg (mC (.int 1))) (mCons (mC (.int 7)) mNil))) (tgN 7) (mIf (mB (mBin fNeD (mBinS (mIn2 false "Book" m_Book___contains__) (mTup (mCons (mName 3) (mCons (mName 5) (mCons (mName 7) mNil)))) (mName 0)) (mBin (fIn false) (mTup (mCons (mName 3) (mCons (mName 5) (mCons (mName 7) mNil)))) (mName 1)))) (mRet (mC (.bl false))) mNext))) ⟨[.val (book ts), .val (.lst (ts.map tupI)), .val (.int far), c3, t4, s5, b6, t7], G⟩ = some (.ok .nx, ⟨[.val (book ts), .val (.lst (ts.map tupI)), .val (.int far), c3, t4, s5', b6, t7'], G⟩) := fun c3 t4 s5 b6 t7 a h3 => by
    rw [rng]
    exact lk_mid p3 _ _ rng_int h3
  obtain ⟨c3, s5, t7, e1⟩ := lk_out p2 (rngW (-1) 8) (rngW (-1) 8) (c3 := .non) (t4 := .non) (s5 := .non) (b6 := .non) (t7 := .non) rng_int
  rw [← rng] at e1
  have p1 : ∀ (t : List Int) (c3 s5 b6 t7 : SV), t ∈ ts → ∃ c3' s5' b6' t7', (mFor (mIter (mLst (mCons (mC (.int 6)) (mCons (mC (.int 7)) (mCons (mC (.int 8)) (mCons (mC (.int 10)) (mCons (mC (.int 16)) (mCons (mC (.int 100)) mNil)))))))) (tgN 6) lkB) ⟨[.val (book ts), .val (.lst (ts.map tupI)), .val (.int far), c3, .val (tupI t), s5, b6, t7], G⟩ = some (.ok .nx, ⟨[.val (book ts), .val (.lst (ts.map tupI)), .val (.int far), c3', .val (tupI t), s5', b6', t7'], G⟩) := fun t c3 s5 b6 t7 ht => by
    have z6 : 6 ≤ sz := by decide
    obtain ⟨c3', s5', b6', t7', e⟩ := lk_base (far := far) (G := G) c ht [W.int 6, .int 7, .int 8, .int 10, .int 16, .int 100] [W.int 6, .int 7, .int 8, .int 10, .int 16, .int 100] (c3 := c3) (s5 := s5) (b6 := b6) (t7 := t7) bases
    refine ⟨c3', s5', b6', t7', ?_⟩
    rw [← e]
    generalize lkB = B
    generalize tupI t = T
    generalize ts.map tupI = TT
    simp [z6]
  obtain ⟨c3', t4', s5', b6', t7', e2⟩ := lk_due (far := far) (G := G) c p1 ts (ts.map tupI) (c3 := c3) (t4 := .non) (s5 := s5) (b6 := .non) (t7 := t7) (fun _ h => h)
  have n1 : decide ([far + 6, 0, 1] ∈ ts) = false := decide_eq_false fun m => by
    have := every_iff.mp (c.sub _ m)
    omega
  have n2 : decide ([0, 1, -1 - far] ∈ ts) = false := decide_eq_false fun m => by
    have := every_iff.mp (c.sub _ m)
    omega
  have i1 := in_book (ts := ts) (far + 6) 0 1 G
  have i2 := in_book (ts := ts) 0 1 (-1 - far) G
  rw [n1] at i1
  rw [n2] at i2
  have z3 : 3 ≤ sz := by decide
  have ng : fNeg (.int 1) = some (.imm (.int (-1))) := rfl
  generalize hT : ts.map tupI = TT at *
  have q0 : mIf (mOr (mNot (mB (mCall 2 m__law_same_book (mCons (mName 0) (mCons (mName 1) mNil))))) (mNot (mB (mCall 2 m__law_same_rows (mCons (mLc [4] (mIterO "Book" "rows" (mName 0)) (tgN 4) mYes (mName 4)) (mCons (mName 1) mNil)))))) (mRet (mC (.bl false))) mNext ⟨[.val (book ts), .val (.lst TT), .val (.int far), .non, .non, .non, .non, .non], G⟩ = some (.ok .nx, ⟨[.val (book ts), .val (.lst TT), .val (.int far), .non, .non, .non, .non, .non], G⟩) := by
    simp [sb, sr, lit, lc]
  have q2 : mFor (mIter (mName 1)) (tgN 4) (mFor (mIter (mLst (mCons (mC (.int 6)) (mCons (mC (.int 7)) (mCons (mC (.int 8)) (mCons (mC (.int 10)) (mCons (mC (.int 16)) (mCons (mC (.int 100)) mNil)))))))) (tgN 6) lkB) ⟨[.val (book ts), .val (.lst TT), .val (.int far), c3, .non, s5, .non, t7], G⟩ = some (.ok .nx, ⟨[.val (book ts), .val (.lst TT), .val (.int far), c3', t4', s5', b6', t7'], G⟩) := by
    rw [← e2]
    rfl
  show outF (mSeq _ (mSeq _ (mSeq (mFor (mIter (mName 1)) (tgN 4) (mFor _ (tgN 6) lkB)) _)) ⟨[.val (book ts), .val (.lst TT), .val (.int far), .non, .non, .non, .non, .non], G⟩) = _
  rw [seq_at q0, seq_at e1, seq_at q2]
  simp [z3, i1, i2, ng, outF]
end
end Z
set_option linter.all false
set_option maxRecDepth 100000
set_option maxHeartbeats 4000000
namespace Z
open PySem PySem.Spec PyProof.Rows
open L2 hiding XE Takes CX takes_of passes_call passAt MkP PMk ps_raise mk_of ps_try_as ps_try_many pmk_own Takes.imp
open L2N
@[simp] theorem mIterT_e {m : Mo RV} {r : List SV} {G : List Cell} : mIterT m ⟨r, G⟩ = bnd m (fun x => bnd (freeze (settle x)) fun w s => match w with
  | .tup ws => some (.ok ⟨ws, none⟩, s)
  | _ => none) ⟨r, G⟩ := rfl
theorem kb1 : List.lookup ("BadCount" : Str) th_BadCount = some true ∧ tabAt tx_KeeperError (.own "BadCount") = some true ∧ tabAt tx_BadKey (.own "BadCount") = some false ∧ ("BadCount" : Str) ∈ xfn_triple ∧ tabAt ti_tuple (.ty "tuple") = some true := by decide +kernel
def badL (L : List (List Int)) : List (List Int) := L.filter fun t => !decide (t ∈ every)
section
variable {L : List (List Int)} {G : List Cell} {v0 v1 v2 v3 v7 v8 : SV}
theorem l5_bad (tri : ∀ t ∈ L, Tri t) {b : List Int} (hb : (badL L).head? = some b) {n : Nat} (hG : G[n]? = some (.lst (L.map tupI))) (hn : noExc [v0, v1, v2, v3, v7, v8] = true) :
    ∃ st, law_s5 ⟨[v0, v1, v2, v3, .own (.lst ((badL L).map tupI)), .val (.ref n), .non, v7, v8, .non, .non, .non], G⟩ = some (.ok (.rt (.val (.bl true))), st) := by
  obtain ⟨G', mk⟩ := xr_badmake (r := [v0, v1, v2, v3, .own (.lst ((badL L).map tupI)), .val (.ref n), .non, v7, v8, .non, .non, .non]) (G := G) (R := .ref n) L tri hb (.inr (.inr ⟨n, rfl, hG⟩))
  obtain ⟨h1, h2, h3, h4, h5⟩ := kb1
  obtain ⟨bs, hbs⟩ : ∃ bs, badL L = b :: bs := by
    cases h : badL L with
    | nil => rw [h] at hb; cases hb
    | cons x xs =>
      rw [h] at hb
      cases hb
      exact ⟨xs, rfl⟩
  obtain ⟨x, y, z, rfl⟩ : Tri b := tri b (by
    have : b ∈ badL L := by rw [hbs]; exact List.mem_cons_self
    exact (List.mem_filter.mp this).1)
  have a0 : atI ((badL L).map tupI) 0 = some (tupI [x, y, z]) := atI_nat (j := 0) (by rw [hbs]; rfl)
  have e0 : fEqD (.lst ((badL L).map tupI)) (.lst []) = some (.imm (.bl false)) := by
    have := fEqD_emb (emb_lst emb_row) (by decide) (badL L) []
    rw [decide_eq_false (by rw [hbs]; simp)] at this
    exact this
  have e1 : fEqD (tupI [x, y, z]) (tupI [x, y, z]) = some (.imm (.bl true)) := by
    have := fEqD_emb emb_row (by decide) [x, y, z] [x, y, z]
    simpa using this
  have lu : List.lookup ("triple" : Str) [("triple", tupI [x, y, z])] = some (tupI [x, y, z]) := rfl
  have lc := lc_all (s := ⟨[v0, v1, v2, v3, .own (.lst ((badL L).map tupI)), .val (.ref n), .exc ⟨"BadCount", [("triple", tupI [x, y, z])]⟩, v7, v8, .non, .non, .non], G'⟩) (k := ⟨[W.int x, .int y, .int z], none⟩) (vs := [11]) (t := tgN 11) (tt := mYes) (me := mCallW 1 m__law_is_int (mCons (mName 11) mNil)) (e := W.int) (by exact trivial) (fun _ => W.bl true) [x, y, z] [] (fun k _ =>
    ⟨⟨[v0, v1, v2, v3, .own (.lst ((badL L).map tupI)), .val (.ref n), .exc ⟨"BadCount", [("triple", tupI [x, y, z])]⟩, v7, v8, .non, .non, .val (.int k)], G'⟩, by simp, ⟨[v0, v1, v2, v3, .own (.lst ((badL L).map tupI)), .val (.ref n), .exc ⟨"BadCount", [("triple", tupI [x, y, z])]⟩, v7, v8, .non, .non, .val (.int k)], G'⟩, by simp [x_is_int], by simp⟩) (by show 3 ≤ 16777216; omega)
  simp only [List.map_cons, List.map_nil, List.nil_append] at lc
  have al : fAll [.lst [.bl true, .bl true, .bl true]] = some (.imm (.bl true)) := rfl
  have te : tupI [x, y, z] = .tup [.int x, .int y, .int z] := rfl
  rw [te] at mk a0 e1 lu lc
  simp only [noExc, List.all_cons, List.all_nil, Bool.and_true, Bool.and_eq_true] at hn
  refine ⟨⟨[v0, v1, v2, v3, .own (.lst ((badL L).map tupI)), .val (.ref n), .non, v7, v8, .non, .non, .non], G'⟩, ?_⟩
  generalize (badL L).map tupI = BB at *
  simp [law_s5, mk, h1, h2, h3, h4, h5, e0, e1, a0, lu, lc, al, noExc, hn]
end
end Z
set_option linter.all false
set_option maxRecDepth 100000
set_option maxHeartbeats 4000000
namespace Z
open PySem PySem.Spec PyProof.Rows
open L2 hiding XE Takes CX takes_of passes_call passAt MkP PMk ps_raise mk_of ps_try_as ps_try_many pmk_own Takes.imp
open L2N
section
variable {G : List Cell} {v0 v3 v8 : SV} {xs : List Int}
theorem fMul_60 : fMul (.lst [W.int 9]) (.int 60) = some (.newl ((List.replicate 60 (9 : Int)).map W.int)) := by
  rw [fMul_rep, fRepL_lst _ _ ⟨by decide, by decide, by show 1 * 60 ≤ 16777216; omega⟩]
  rw [List.map_replicate]
  exact congrArg (fun z => some (OR.newl z)) (repW_one (.int 9) 60)
theorem cut_three {j : Nat} (h : 7 + 3 * j ≤ xs.length) : fSl (.lst (xs.map W.int)) (some (4 + 3 * (j : Int))) (some (7 + 3 * (j : Int))) = some (.newl [.int xs[4 + 3 * j], .int xs[5 + 3 * j], .int xs[6 + 3 * j]]) := by
  show some (OR.newl (cutW _ _ _)) = _
  have c1 : (4 + 3 * (j : Int)) = ((4 + 3 * j : Nat) : Int) := by omega
  have c2 : (7 + 3 * (j : Int)) = ((7 + 3 * j : Nat) : Int) := by omega
  rw [c1, c2]
  unfold cutW
  rw [HT.sIx_nat, HT.sIx_nat, List.length_map, Nat.min_eq_left (by omega), Nat.min_eq_left (by omega), show 7 + 3 * j - (4 + 3 * j) = 3 by omega, ← List.map_drop, ← List.map_take]
  rw [List.drop_eq_getElem_cons (by omega), List.drop_eq_getElem_cons (by omega), List.drop_eq_getElem_cons (by omega)]
  simp [show 4 + 3 * j + 1 = 5 + 3 * j by omega, show 5 + 3 * j + 1 = 6 + 3 * j by omega]
  rw [List.drop_eq_getElem_cons (by simp; omega)]
  simp
theorem l2_loop (hx : xs.length = 64) (hb : ∀ (i : Nat) (x : Int), 4 ≤ i → xs[i]? = some x → 0 ≤ x ∧ x < 9) (h1 : ∃ n : Nat, xs[1]? = some (n : Int) ∧ n ≤ 20) :
    ∃ (L : List (List Int)) (v3' v8' : SV), law_s2 ⟨[v0, .own (.lst (xs.map W.int)), .own (.lst []), .non, .non, .non, .non, .non, .non, .non, .non, .non], G⟩ = some (.ok .nx, ⟨[v0, .own (.lst (xs.map W.int)), .own (.lst (L.map tupI)), v3', .non, .non, .non, .non, v8', .non, .non, .non], G⟩) ∧ (∀ t ∈ L, Tri t) ∧ L.length ≤ 20 ∧ noExc [v3', v8'] = true := by
  obtain ⟨n1, e1, hn⟩ := h1
  have at_ : ∀ (i : Nat) (h : i < xs.length), atI (xs.map W.int) (i : Int) = some (.int xs[i]) := fun i h => atI_nat (by rw [List.getElem?_map, List.getElem?_eq_getElem h]; rfl)
  have i0 := at_ 0 (by omega)
  have i1 := at_ 1 (by omega)
  have i2 := at_ 2 (by omega)
  have i3 := at_ 3 (by omega)
  have x1 : xs[1] = (n1 : Int) := by
    rw [List.getElem?_eq_getElem (by omega)] at e1
    exact Option.some.inj e1
  rw [x1] at i1
  have rk : Rk (n1 : Int) := rk_nat (by omega)
  have body : ∀ (L : List (List Int)) (j : Nat) (v3 v8 : SV), j < 20 → L.length ≤ 20 → ∃ (t : List Int) (b : Bool), Tri t ∧ (bnd (tgN 3 (.int (j : Int))) fun _ => law_s2b_t0) ⟨[v0, .own (.lst (xs.map W.int)), .own (.lst (L.map tupI)), v3, .non, .non, .non, .non, v8, .non, .non, .non], G⟩ = some (.ok .nx, ⟨[v0, .own (.lst (xs.map W.int)), .own (.lst ((L ++ [t]).map tupI)), .val (.int (j : Int)), .non, .non, .non, .non, .val (.bl b), .non, .non, .non], G⟩) := fun L j v3 v8 hj hL => by
    obtain ⟨b, lo⟩ : ∃ b : Bool, law_s2b_s0 ⟨[v0, .own (.lst (xs.map W.int)), .own (.lst (L.map tupI)), .val (.int (j : Int)), .non, .non, .non, .non, v8, .non, .non, .non], G⟩ = some (.ok .nx, ⟨[v0, .own (.lst (xs.map W.int)), .own (.lst (L.map tupI)), .val (.int (j : Int)), .non, .non, .non, .non, .val (.bl b), .non, .non, .non], G⟩) := by
      have i0 : atI (xs.map W.int) 0 = some (.int xs[0]) := i0
      have i2 : atI (xs.map W.int) 2 = some (.int xs[2]) := i2
      generalize L.map tupI = LL
      generalize xs.map W.int = XX at *
      generalize xs[0] = a at *
      generalize xs[2] = c at *
      by_cases q1 : a = 1
      · exact ⟨true, by simp [law_s2b_s0, i0, fEqD_i, q1]⟩
      · by_cases q2 : a = 2
        · exact ⟨decide ((j : Int) = c), by simp [law_s2b_s0, i0, i2, fEqD_i, q2]⟩
        · exact ⟨false, by simp [law_s2b_s0, i0, i2, fEqD_i, q1, q2]⟩
    have d0 := hb (4 + 3 * j) xs[4 + 3 * j] (by omega) (List.getElem?_eq_getElem (by omega))
    have d1 := hb (5 + 3 * j) xs[5 + 3 * j] (by omega) (List.getElem?_eq_getElem (by omega))
    have d2 := hb (6 + 3 * j) xs[6 + 3 * j] (by omega) (List.getElem?_eq_getElem (by omega))
    have cu := cut_three (xs := xs) (j := j) (by omega)
    obtain ⟨t, tt, et⟩ := x_triple b _ _ _ xs[3] d0 d1 d2 G
    refine ⟨t, b, tt, ?_⟩
    have tg : (bnd (tgN 3 (.int (j : Int))) fun _ => law_s2b_t0) ⟨[v0, .own (.lst (xs.map W.int)), .own (.lst (L.map tupI)), v3, .non, .non, .non, .non, v8, .non, .non, .non], G⟩ = law_s2b_t0 ⟨[v0, .own (.lst (xs.map W.int)), .own (.lst (L.map tupI)), .val (.int (j : Int)), .non, .non, .non, .non, v8, .non, .non, .non], G⟩ := rfl
    rw [tg]
    unfold law_s2b_t0
    rw [seq_at lo, List.map_append]
    have e1 : [t].map tupI = [tupI t] := rfl
    rw [e1]
    have i3 : atI (xs.map W.int) 3 = some (.int xs[3]) := i3
    have lz : (L.map tupI).length < sz := by rw [List.length_map]; show _ < 16777216; omega
    have fz : ∀ r G, freeze (.val (tupI t)) ⟨r, G⟩ = some (.ok (tupI t), ⟨r, G⟩) := fun _ _ => rfl
    generalize tupI t = T at *
    generalize L.map tupI = LL at *
    generalize xs.map W.int = XX at *
    generalize xs[4 + 3 * j] = y0 at *
    generalize xs[5 + 3 * j] = y1 at *
    generalize xs[6 + 3 * j] = y2 at *
    generalize xs[3] = y3 at *
    have cm : CMul 3 (j : Int) := by unfold CMul; left; decide
    simp [law_s2b_t1, law_s2b_s1, cm, cu, i3, et, fAppend, lz, fz]
  have it : mRng1 (mCons (mBin fIx (mName 1) (mC (.int 1))) mNil) ⟨[v0, .own (.lst (xs.map W.int)), .own (.lst []), .non, .non, .non, .non, .non, .non, .non, .non, .non], G⟩ = some (.ok ⟨rngW 0 n1, none⟩, ⟨[v0, .own (.lst (xs.map W.int)), .own (.lst []), .non, .non, .non, .non, .non, .non, .non, .non, .non], G⟩) := by
    have i1 : atI (xs.map W.int) 1 = some (.int (n1 : Int)) := i1
    generalize xs.map W.int = XX at *
    simp [i1, rk]
  have hF : law_s2 ⟨[v0, .own (.lst (xs.map W.int)), .own (.lst []), .non, .non, .non, .non, .non, .non, .non, .non, .non], G⟩ = forL ⟨rngW 0 n1, none⟩ (rngW 0 n1) (fun w => bnd (tgN 3 w) fun _ => law_s2b_t0) ⟨[v0, .own (.lst (xs.map W.int)), .own (.lst []), .non, .non, .non, .non, .non, .non, .non, .non, .non], G⟩ := by
    show bnd _ _ _ = _
    rw [bnd_at it]
  obtain ⟨s', e, L, v3, v8, hL, tri, nx, rfl⟩ := forL_at hF.symm (fun i st => ∃ (L : List (List Int)) (v3 v8 : SV), L.length = i ∧ (∀ t ∈ L, Tri t) ∧ noExc [v3, v8] = true ∧ st = ⟨[v0, .own (.lst (xs.map W.int)), .own (.lst (L.map tupI)), v3, .non, .non, .non, .non, v8, .non, .non, .non], G⟩) ⟨[], _, _, rfl, fun t h => (by cases h), rfl, rfl⟩ (by
    rintro i hi st ⟨L, v3, v8, hL, tri, nx, rfl⟩
    have hi' : i < n1 := by simpa [rngW] using hi
    have ei : (rngW 0 n1)[i]'hi = W.int (i : Int) := by simp [rngW]
    rw [ei]
    obtain ⟨t, b, tt, e⟩ := body L i v3 v8 (by omega) (by omega)
    exact ⟨_, e, L ++ [t], _, _, by rw [List.length_append, hL]; rfl, fun x hx => (List.mem_append.mp hx).elim (tri x) (fun z => (by rw [List.mem_singleton.mp z]; exact tt)), rfl, rfl⟩)
  have hl : (rngW 0 n1).length = n1 := by simp [rngW]
  exact ⟨L, v3, v8, e, tri, by omega, nx⟩
end
end Z
set_option linter.all false
set_option maxRecDepth 100000
set_option maxHeartbeats 4000000
namespace Z
open PySem PySem.Spec PyProof.Rows
open L2 hiding XE Takes CX takes_of passes_call passAt MkP PMk ps_raise mk_of ps_try_as ps_try_many pmk_own Takes.imp
open L2N
section
variable {L : List (List Int)} {v0 v1 v3 v8 : SV}
theorem asc_in (h : ∀ t ∈ L, t ∈ every) : asc L = every.filter fun t => decide (t ∈ L) := asc_of fun t => ⟨fun m => ⟨h t m, decide_eq_true m⟩, fun m => of_decide_eq_true m.2⟩
theorem l3_ok (tri : ∀ t ∈ L, Tri t) (hl : L.length ≤ 20) : law_s3 ⟨[v0, v1, .own (.lst (L.map tupI)), v3, .non, .non, .non, .non, v8, .non, .non, .non], []⟩ = some (.ok .nx, ⟨[v0, v1, .val (.lst (L.map tupI)), v3, .own (.lst ((badL L).map tupI)), .non, .non, .non, v8, .non, .non, .non], []⟩) := by
  have lc := lc_pure (s := ⟨[v0, v1, .val (.lst (L.map tupI)), v3, .non, .non, .non, .non, v8, .non, .non, .non], []⟩) (k := ⟨L.map tupI, none⟩) (vs := [10]) (t := tgN 10) (tt := mNot (mB (mCall 1 m__law_is_count (mCons (mName 10) mNil)))) (me := mName 10) (e := tupI) trivial (fun t => !decide (t ∈ every)) tupI L [] (fun t m => by
    have c := x_lis_countT (tri t m) []
    have fz : ∀ r G, freeze (.val (tupI t)) ⟨r, G⟩ = some (.ok (tupI t), ⟨r, G⟩) := fun _ _ => rfl
    generalize decide (t ∈ every) = bb at *
    generalize L.map tupI = LL
    refine ⟨⟨[v0, v1, .val (.lst LL), v3, .non, .non, .non, .non, v8, .non, .val (tupI t), .non], []⟩, ?_, fun _ => ⟨⟨[v0, v1, .val (.lst LL), v3, .non, .non, .non, .non, v8, .non, .val (tupI t), .non], []⟩, ?_, by simp⟩, fun _ => by simp⟩
    · simp [fz, c]
    · simp [fz]) (by simp; show _ ≤ 16777216; omega)
  rw [List.nil_append] at lc
  have lc : lcL _ _ _ _ _ _ _ _ = some (.ok (.own (.lst ((badL L).map tupI))), _) := lc
  generalize (badL L).map tupI = BB at *
  generalize L.map tupI = LL at *
  simp [law_s3, lc]
theorem l7_ok {v5 v9 : SV} {G : List Cell} (h : ∀ t ∈ L, t ∈ every) {v4 : SV} : law_s7 ⟨[v0, v1, .val (.lst (L.map tupI)), v3, v4, v5, .non, .non, v8, v9, .non, .non], G⟩ = some (.ok .nx, ⟨[v0, v1, .val (.lst (L.map tupI)), v3, v4, v5, .non, .own (.lst ((asc L).map tupI)), v8, v9, .non, .non], G⟩) := by
  have tr : m__law_triples [.int 6] G = _ := x_triples 6 (by omega) G
  rw [trip_six] at tr
  have lc := lc_pure (s := ⟨[v0, v1, .val (.lst (L.map tupI)), v3, v4, v5, .non, .non, v8, v9, .non, .non], G⟩) (k := ⟨every.map tupI, none⟩) (vs := [10]) (t := tgN 10) (tt := mB (mBin (fIn false) (mName 10) (mName 2))) (me := mName 10) (e := tupI) trivial (fun t => decide (t ∈ L)) tupI every [] (fun t m => by
    have fi : fIn false (tupI t) (.lst (L.map tupI)) = some (.imm (.bl (decide (t ∈ L)))) := (fIn_lst emb_row (by decide) false t L).trans (by simp)
    have lk : ∀ r G, look (.val (tupI t)) ⟨r, G⟩ = some (.ok (tupI t), ⟨r, G⟩) := fun _ _ => rfl
    have fz : ∀ r G, freeze (.val (tupI t)) ⟨r, G⟩ = some (.ok (tupI t), ⟨r, G⟩) := fun _ _ => rfl
    generalize decide (t ∈ L) = bb at *
    generalize tupI t = T at *
    generalize L.map tupI = LL at *
    refine ⟨⟨[v0, v1, .val (.lst LL), v3, v4, v5, .non, .non, v8, v9, .val T, .non], G⟩, ?_, fun _ => ⟨⟨[v0, v1, .val (.lst LL), v3, v4, v5, .non, .non, v8, v9, .val T, .non], G⟩, ?_, by simp⟩, fun _ => by simp⟩
    · simp [lk, fi]
    · simp [fz]) (by rw [every_length]; show _ ≤ 16777216; simp)
  rw [List.nil_append, ← asc_in h] at lc
  generalize (asc L).map tupI = AA at *
  generalize every.map tupI = EE at *
  generalize L.map tupI = LL at *
  simp [law_s7, tr, lc]
end
theorem says : Says m_law := by
  intro ns hl hb
  unfold m_law
  rw [fnM_o]
  have y0 : ∀ G, m__law_cell [.frl (ns.map W.int), .int 0] G = some (.ok (.val (.int (ns.getD 0 0))), G) := fun G => x_cell ns 0 G
  generalize ns.getD 0 0 = c0 at y0
  obtain ⟨xs, ex, len, lim⟩ := x_numbers c0 6 ([3, 21, 21, 1000000000] ++ List.replicate 60 9) (by decide +kernel) (by decide) []
  have len : xs.length = 64 := len
  simp only [List.map_append, List.map_cons, List.map_nil] at ex
  have add : fAdd (.lst [.int 3, .int 21, .int 21, .int 1000000000]) (.lst ((List.replicate 60 (9 : Int)).map W.int)) = _ := fAdd_lists (by show 64 ≤ 16777216; omega)
  have mul := fMul_60
  have c60 : CMul 1 60 := by decide
  have cp : CPow 10 9 := by decide
  have z4 : 4 ≤ sz := by decide
  have z1 : 1 ≤ sz := by decide
  have li : ∀ i x, 4 ≤ i → xs[i]? = some x → 0 ≤ x ∧ x < 9 := fun i x hi e => by
    have hi2 : i < 64 := by
      have := (List.getElem?_eq_some_iff.mp e).1
      omega
    exact lim i x 9 e (by
      rw [List.getElem?_append_right (by simpa using hi), List.getElem?_replicate, if_pos (by simp; omega)])
  have l1 : ∃ n : Nat, xs[1]? = some (n : Int) ∧ n ≤ 20 := by
    obtain ⟨a, b⟩ := lim 1 xs[1] 21 (List.getElem?_eq_getElem (by omega)) rfl
    obtain ⟨n, hn⟩ := Int.eq_ofNat_of_zero_le a
    exact ⟨n, by rw [List.getElem?_eq_getElem (by omega), hn], by omega⟩
  have f3 : 0 ≤ xs[3] := (lim 3 xs[3] 1000000000 (List.getElem?_eq_getElem (by omega)) rfl).1
  have i3 : atI (xs.map W.int) 3 = some (.int xs[3]) := atI_nat (j := 3) (by rw [List.getElem?_map, List.getElem?_eq_getElem (by omega)]; rfl)
  generalize xs[3] = far at *
  rw [law_cut]
  show ∃ G', outF (law_t0 ⟨[.val (.frl (ns.map W.int)), .non, .non, .non, .non, .non, .non, .non, .non, .non, .non, .non], []⟩) = _
  have t02 : law_t0 ⟨[.val (.frl (ns.map W.int)), .non, .non, .non, .non, .non, .non, .non, .non, .non, .non, .non], []⟩ = law_t2 ⟨[.val (.frl (ns.map W.int)), .own (.lst (xs.map W.int)), .own (.lst []), .non, .non, .non, .non, .non, .non, .non, .non, .non], []⟩ := by
    generalize (List.replicate 60 (9 : Int)).map W.int = R60 at *
    simp only [List.cons_append, List.nil_append] at add ex
    generalize xs.map W.int = XX at *
    simp [law_t0, law_s0, law_t1, law_s1, y0, z4, z1, cp, c60, mul, add, ex]
  rw [t02]
  obtain ⟨L, v3, v8, e2, tri, lL, nx⟩ := l2_loop (v0 := .val (.frl (ns.map W.int))) (G := []) len li l1
  unfold law_t2
  rw [seq_at e2]
  unfold law_t3
  rw [seq_at (l3_ok tri lL)]
  have bl : ∀ l : List W, fList [.lst l] = some (.newl l) := fun _ => rfl
  have s4 : law_s4 ⟨[.val (.frl (ns.map W.int)), .own (.lst (xs.map W.int)), .val (.lst (L.map tupI)), v3, .own (.lst ((badL L).map tupI)), .non, .non, .non, v8, .non, .non, .non], []⟩ = some (.ok .nx, ⟨[.val (.frl (ns.map W.int)), .own (.lst (xs.map W.int)), .val (.lst (L.map tupI)), v3, .own (.lst ((badL L).map tupI)), .val (.ref 0), .non, .non, v8, .non, .non, .non], [.lst (L.map tupI)]⟩) := by
    generalize (badL L).map tupI = BB at *
    generalize L.map tupI = LL at *
    generalize xs.map W.int = XX at *
    simp [law_s4, bl, toCell]
  unfold law_t4
  rw [seq_at s4]
  have g0 : ([Cell.lst (L.map tupI)] : List Cell)[0]? = some (.lst (L.map tupI)) := rfl
  cases hB : badL L with
  | cons b bs =>
    have nx2 : noExc [.val (.frl (ns.map W.int)), .own (.lst (xs.map W.int)), .val (.lst (L.map tupI)), v3, .non, v8] = true := by
      simpa [noExc] using nx
    obtain ⟨st, e5⟩ := l5_bad (v7 := .non) tri (b := b) (by rw [hB]; rfl) g0 nx2
    rw [hB] at e5
    refine ⟨st.G, ?_⟩
    have : law_t5 ⟨[.val (.frl (ns.map W.int)), .own (.lst (xs.map W.int)), .val (.lst (L.map tupI)), v3, .own (.lst ((b :: bs).map tupI)), .val (.ref 0), .non, .non, v8, .non, .non, .non], [.lst (L.map tupI)]⟩ = some (.ok (.rt (.val (.bl true))), st) := by
      show bnd _ _ _ = _
      unfold bnd
      rw [e5]
      rfl
    rw [this]
    rfl
  | nil =>
    have all : ∀ t ∈ L, t ∈ every := fun t m => by
      have : t ∉ badL L := by rw [hB]; simp
      unfold badL at this
      simp only [List.mem_filter, not_and, Bool.not_eq_true', decide_eq_false_iff_not, Classical.not_not] at this
      exact this m
    have ct : Cts L := ⟨all, by omega⟩
    have ca : Cts (asc L) := asc_cts L all
    have mk := fun r => xr_make (r := r) (G := [.lst (L.map tupI)]) (R := .ref 0) L ct (.inr (.inr ⟨0, rfl, g0⟩))
    have mt := fun r => xr_make (r := r) (G := [.lst (L.map tupI)]) (R := .tup (L.map tupI)) L ct (.inr (.inl rfl))
    have bw : (bkC (asc L)).toW = book (asc L) := rfl
    have lk := fun G => x_looks (far := far) ca f3 G
    have i3 : atI (xs.map W.int) 3 = some (.int far) := i3
    have nb : fNeD (.lst []) (.lst []) = some (.imm (.bl false)) := fNeD_emb (emb_lst emb_row) (by decide) [] []
    have z3 : 3 ≤ sz := by decide
    have s5 : law_s5 ⟨[.val (.frl (ns.map W.int)), .own (.lst (xs.map W.int)), .val (.lst (L.map tupI)), v3, .own (.lst []), .val (.ref 0), .non, .non, v8, .non, .non, .non], [.lst (L.map tupI)]⟩ = some (.ok .nx, ⟨[.val (.frl (ns.map W.int)), .own (.lst (xs.map W.int)), .val (.lst (L.map tupI)), v3, .own (.lst []), .val (.ref 0), .non, .non, v8, .own (bkC (asc L)), .non, .non], [.lst (L.map tupI)]⟩) := by
      generalize bkC (asc L) = BC at *
      generalize L.map tupI = LL at *
      generalize xs.map W.int = XX at *
      simp [law_s5, mk]
    have s6 : law_s6 ⟨[.val (.frl (ns.map W.int)), .own (.lst (xs.map W.int)), .val (.lst (L.map tupI)), v3, .own (.lst []), .val (.ref 0), .non, .non, v8, .own (bkC (asc L)), .non, .non], [.lst (L.map tupI)]⟩ = some (.ok .nx, ⟨[.val (.frl (ns.map W.int)), .own (.lst (xs.map W.int)), .val (.lst (L.map tupI)), v3, .own (.lst []), .val (.ref 0), .non, .non, v8, .own (bkC (asc L)), .non, .non], [.lst (L.map tupI)]⟩) := by
      generalize bkC (asc L) = BC at *
      generalize L.map tupI = LL at *
      generalize xs.map W.int = XX at *
      simp [law_s6, nb]
    unfold law_t5 law_t6 law_t7
    rw [List.map_nil, seq_at s5, seq_at s6, seq_at (l7_ok all)]
    have mk0 := fun r G => xr_make0 (r := r) (G := G)
    have b0 : (bkC []).toW = book [] := rfl
    have s0 := fun G => xr_same (G := G) (w := book []) .val cts_nil
    have lzL : (L.map tupI).length ≤ 20 := by rw [List.length_map]; exact lL
    have ft : fTuple [.lst (L.map tupI)] = some (.newt (L.map tupI)) := rfl
    generalize L.map tupI = LL at *
    have lz : LL.length < sz := by show _ < 16777216; omega
    have lz1 : LL.length + 1 < sz := by show _ < 16777216; omega
    rw [List.map_nil] at s0
    have ap : fAppend (.lst LL) [.tup [.int 5, .int 4, .int 3]] = some (.non, .lst (LL ++ [.tup [.int 5, .int 4, .int 3]])) := by simp [fAppend, lz]
    have ins : fInsert (.lst (LL ++ [.tup [.int 5, .int 4, .int 3]])) [.int 0, .tup [.int 0, .int 1, .int 2]] = some (.non, .lst (.tup [.int 0, .int 1, .int 2] :: (LL ++ [.tup [.int 5, .int 4, .int 3]]))) := by
      have w : (LL ++ [W.tup [.int 5, .int 4, .int 3]]).length < sz ∧ (0 : Int) ≤ 0 ∧ (0 : Int) < 2 ^ 63 := ⟨by rw [List.length_append]; exact lz1, by omega, by omega⟩
      show (if (LL ++ [W.tup [.int 5, .int 4, .int 3]]).length < sz ∧ (0 : Int) ≤ 0 ∧ (0 : Int) < 2 ^ 63 then _ else none) = _
      rw [if_pos w]
      rfl
    refine ⟨[.lst (.tup [.int 0, .int 1, .int 2] :: (LL ++ [.tup [.int 5, .int 4, .int 3]]))], ?_⟩
    generalize (.tup [.int 0, .int 1, .int 2] :: (LL ++ [.tup [.int 5, .int 4, .int 3]])) = L2 at *
    generalize LL ++ [.tup [.int 5, .int 4, .int 3]] = L1 at *
    generalize (asc L).map tupI = AA at *
    generalize bkC (asc L) = BC at *
    generalize book (asc L) = BO at *
    generalize bkC [] = BC0 at *
    generalize book [] = BO0 at *
    generalize xs.map W.int = XX at *
    simp [law_t8, law_s8, law_t9, law_s9, law_t10, law_s10, law_t11, law_s11, law_t12, law_s12, i3, lk, bw, ft, mt, z3, ap, ins, mk0, b0, s0, outF]
end Z
namespace Z
open PySem PySem.Spec PyProof.Rows
open L2 hiding XE Takes CX takes_of passes_call passAt MkP PMk ps_raise mk_of ps_try_as ps_try_many pmk_own Takes.imp
open L2N
theorem all_mk {l : PySem.W.OpenLaw} {w : World} {K : PySem.W.Frag} {h : Heap} {mg : Str → Option Value} {fa : Addr} (X : K.In h) (G : h.Ns mainGlobals mg) (hfa : mg "law" = some (.ref fa))
    {C_KeeperError C_BadKey C_BadCount C_Book f__law_numbers f__law_cell f__law_triple f__law_is_count f_is_count f_ascending f_Book___init__ f__law_is_int f__law_triples f_Book___len__ f__law_same_rows f_Book___iter__ f__law_same_book f_Book___contains__ f__law_looks f_law f_BadCount___init__ : Addr}
    {oc_Book___init__ kV_Book___init__ dc_Book___init__ pm_Book___init__ cd_Book___init__ ct_Book___init__ tc_Book___init__ : Value}
    {T_Book___init__ E_Book___init__ : Addr} {td_Book___init__ te_Book___init__ : Option Addr} {tn_Book___init__ en_Book___init__ : Nat} {ts_Book___init__ es_Book___init__ : Array (Option Value)}
    {od_Book___init__ an_Book___init__ : Option Addr}
    {sl_Book___init__ : Array (Option Value)}
    {tk_MOST_COPIES : Tok}
    {nm_BadCount qq_BadCount : Str} {N_BadCount : Addr} {bs_BadCount sb_BadCount : List Value} {sn_BadCount : List Str} {ab_BadCount : Bool} {co_BadCount : Option Bool} {dd_BadCount : Option Addr} {m0_BadCount m1_BadCount m2_BadCount m3_BadCount m5_BadCount : Option Value}
    (aC_KeeperError : PySem.W.nsIn K mainGlobals "KeeperError" = some (some (.ref C_KeeperError)))
    (aC_BadKey : PySem.W.nsIn K mainGlobals "BadKey" = some (some (.ref C_BadKey)))
    (aC_BadCount : PySem.W.nsIn K mainGlobals "BadCount" = some (some (.ref C_BadCount)))
    (aC_Book : PySem.W.nsIn K mainGlobals "Book" = some (some (.ref C_Book)))
    (xf1_BadCount : PySem.W.findIn K (.ref C_BadCount) "__init__" = some (some (.ref f_BadCount___init__)))
    (a__law_numbers : PySem.W.nsIn K mainGlobals "_law_numbers" = some (some (.ref f__law_numbers)))
    (a__law_cell : PySem.W.nsIn K mainGlobals "_law_cell" = some (some (.ref f__law_cell)))
    (a__law_triple : PySem.W.nsIn K mainGlobals "_law_triple" = some (some (.ref f__law_triple)))
    (a__law_is_count : PySem.W.nsIn K mainGlobals "_law_is_count" = some (some (.ref f__law_is_count)))
    (a_is_count : PySem.W.nsIn K mainGlobals "is_count" = some (some (.ref f_is_count)))
    (a_ascending : PySem.W.nsIn K mainGlobals "ascending" = some (some (.ref f_ascending)))
    (ma_Book___init__ : PySem.W.findIn K (.ref C_Book) "__init__" = some (some (.ref f_Book___init__)))
    (a__law_is_int : PySem.W.nsIn K mainGlobals "_law_is_int" = some (some (.ref f__law_is_int)))
    (a__law_triples : PySem.W.nsIn K mainGlobals "_law_triples" = some (some (.ref f__law_triples)))
    (ma_Book___len__ : PySem.W.findIn K (.ref C_Book) "__len__" = some (some (.ref f_Book___len__)))
    (a__law_same_rows : PySem.W.nsIn K mainGlobals "_law_same_rows" = some (some (.ref f__law_same_rows)))
    (ma_Book___iter__ : PySem.W.findIn K (.ref C_Book) "__iter__" = some (some (.ref f_Book___iter__)))
    (a__law_same_book : PySem.W.nsIn K mainGlobals "_law_same_book" = some (some (.ref f__law_same_book)))
    (ma_Book___contains__ : PySem.W.findIn K (.ref C_Book) "__contains__" = some (some (.ref f_Book___contains__)))
    (a__law_looks : PySem.W.nsIn K mainGlobals "_law_looks" = some (some (.ref f__law_looks)))
    (a_law : PySem.W.nsIn K mainGlobals "law" = some (some (.ref f_law)))
    (av_MOST_COPIES : PySem.W.nsIn K mainGlobals "MOST_COPIES" = some (some (.int 6 tk_MOST_COPIES)))
    (xL_BadCount : K.lookup C_BadCount = some (excClassObj nm_BadCount qq_BadCount C_BadCount N_BadCount bs_BadCount [.ref C_KeeperError, .type "ValueError", .type "Exception", .type "BaseException", .type "object"] true sn_BadCount sb_BadCount ab_BadCount co_BadCount dd_BadCount m0_BadCount m1_BadCount m2_BadCount m3_BadCount m5_BadCount "ValueError.__new__"))
    (l_Book___init__ : K.lookup f_Book___init__ = some ⟨oc_Book___init__, od_Book___init__, .func (PySem.W.fnOf "__init__" "Book.__init__" (defArgs s_Book___init__) (defBody s_Book___init__) (defScope s_Book___init__) (.ref T_Book___init__) kV_Book___init__ dc_Book___init__ pm_Book___init__ an_Book___init__ cd_Book___init__ ct_Book___init__), sl_Book___init__⟩)
    (t_Book___init__ : K.lookup T_Book___init__ = some ⟨tc_Book___init__, td_Book___init__, .seq #[.ref E_Book___init__] tn_Book___init__, ts_Book___init__⟩)
    (e_Book___init__ : K.lookup E_Book___init__ = some ⟨.type "tuple", te_Book___init__, .seq #[] en_Book___init__, es_Book___init__⟩)
    (z_all : PySem.W.nsIn K mainGlobals "all" = some none)
    (z_bool : PySem.W.nsIn K mainGlobals "bool" = some none)
    (z_int : PySem.W.nsIn K mainGlobals "int" = some none)
    (z_isinstance : PySem.W.nsIn K mainGlobals "isinstance" = some none)
    (z_iter : PySem.W.nsIn K mainGlobals "iter" = some none)
    (z_len : PySem.W.nsIn K mainGlobals "len" = some none)
    (z_list : PySem.W.nsIn K mainGlobals "list" = some none)
    (z_range : PySem.W.nsIn K mainGlobals "range" = some none)
    (z_tuple : PySem.W.nsIn K mainGlobals "tuple" = some none)
    (kp_KeeperError : PySem.W.keepIn K (.ref C_KeeperError) = true)
    (kp_BadKey : PySem.W.keepIn K (.ref C_BadKey) = true)
    (kp_BadCount : PySem.W.keepIn K (.ref C_BadCount) = true)
    (kp_Book : PySem.W.keepIn K (.ref C_Book) = true)
    (pg_Book : PySem.W.plainGet K C_Book Str.empty = true)
    (hd_Book : PySem.W.hasDictIn K C_Book = true)
    (po_Book : PySem.W.plainOver K C_Book = true)
    (sa_Book : PySem.W.findIn K (.ref C_Book) "__setattr__" = some (some (.builtin "object.__setattr__")))
    (mk_Book : PySem.W.makesIn K C_Book = true)
    (ha_Book : PySem.W.findIn K (.ref C_Book) "__class__" = some (some (.builtin "object.__class__")))
    (hm_Book : PySem.W.mroIn K C_Book (.type "object") = some true)
    (me_Book : PySem.W.kitOne K (.ref C_Book) (.ref C_Book) = some true)
    (sp_get : PySem.W.specialIn K (.builtin "object.__class__") "__get__" = some (some (.builtin "getset_descriptor.__get__")))
    (tk_cls : PySem.W.takesIn K (.builtin "object.__class__") = some true)
    (nA_Book_rows : PySem.W.findIn K (.ref C_Book) "rows" = some none)
    (xA_BadCount_triple : PySem.W.findIn K (.ref C_BadCount) "triple" = some none)
    (ik_Book_bool : PySem.W.kitOne K (.ref C_Book) (.type "bool") = some false)
    (ik_Book_int : PySem.W.kitOne K (.ref C_Book) (.type "int") = some false)
    (ik_Book_list : PySem.W.kitOne K (.ref C_Book) (.type "list") = some false)
    (ik_Book_tuple : PySem.W.kitOne K (.ref C_Book) (.type "tuple") = some false)
    (eg_KeeperError : PySem.W.findIn K (.ref C_KeeperError) "__getattribute__" = some (some (.builtin "BaseException.__getattribute__")))
    (ek_KeeperError : PySem.W.findIn K (.ref C_KeeperError) "__getattr__" = some none)
    (es_KeeperError : PySem.W.subIn K (.ref C_KeeperError) (.type "BaseException") = some true)
    (ed_KeeperError : PySem.W.hasDictIn K C_KeeperError = true)
    (ea_KeeperError : PySem.W.findIn K (.ref C_KeeperError) "__class__" = some (some (.builtin "object.__class__")))
    (em_KeeperError : PySem.W.mroIn K C_KeeperError (.type "object") = some true)
    (eg_BadKey : PySem.W.findIn K (.ref C_BadKey) "__getattribute__" = some (some (.builtin "BaseException.__getattribute__")))
    (ek_BadKey : PySem.W.findIn K (.ref C_BadKey) "__getattr__" = some none)
    (es_BadKey : PySem.W.subIn K (.ref C_BadKey) (.type "BaseException") = some true)
    (ed_BadKey : PySem.W.hasDictIn K C_BadKey = true)
    (ea_BadKey : PySem.W.findIn K (.ref C_BadKey) "__class__" = some (some (.builtin "object.__class__")))
    (em_BadKey : PySem.W.mroIn K C_BadKey (.type "object") = some true)
    (eg_BadCount : PySem.W.findIn K (.ref C_BadCount) "__getattribute__" = some (some (.builtin "BaseException.__getattribute__")))
    (ek_BadCount : PySem.W.findIn K (.ref C_BadCount) "__getattr__" = some none)
    (es_BadCount : PySem.W.subIn K (.ref C_BadCount) (.type "BaseException") = some true)
    (ed_BadCount : PySem.W.hasDictIn K C_BadCount = true)
    (ea_BadCount : PySem.W.findIn K (.ref C_BadCount) "__class__" = some (some (.builtin "object.__class__")))
    (em_BadCount : PySem.W.mroIn K C_BadCount (.type "object") = some true)
    (jk_BadCount_BadKey : PySem.W.kitOne K (.ref C_BadCount) (.ref C_BadKey) = some false)
    (jk_BadKey_BadKey : PySem.W.kitOne K (.ref C_BadKey) (.ref C_BadKey) = some true)
    (jk_KeeperError_BadKey : PySem.W.kitOne K (.ref C_KeeperError) (.ref C_BadKey) = some false)
    (jk_BadCount_KeeperError : PySem.W.kitOne K (.ref C_BadCount) (.ref C_KeeperError) = some true)
    (jk_BadKey_KeeperError : PySem.W.kitOne K (.ref C_BadKey) (.ref C_KeeperError) = some true)
    (jk_KeeperError_KeeperError : PySem.W.kitOne K (.ref C_KeeperError) (.ref C_KeeperError) = some true)
    (hb_BadCount : PySem.W.subIn K (.ref C_BadCount) (.type "BaseException") = some true)
    (hdd_BadCount : PySem.W.hasDictIn K C_BadCount = true)
    (ht_BadCount : PySem.W.typeIn K (.ref C_BadCount) = some (.type "type"))
    (hs_BadCount_BadCount : PySem.W.subIn K (.ref C_BadCount) (.ref C_BadCount) = some true)
    (hs_BadKey_BadCount : PySem.W.subIn K (.ref C_BadKey) (.ref C_BadCount) = some false)
    (hs_KeeperError_BadCount : PySem.W.subIn K (.ref C_KeeperError) (.ref C_BadCount) = some false)
    (xs_BadCount : PySem.W.findIn K (.ref C_BadCount) "__setattr__" = some (some (.builtin "object.__setattr__")))
    (xe_BadCount : PySem.W.subIn K (.ref C_BadCount) (.type "BaseException") = some true)
    (xy_BadCount : PySem.W.typeIn K (.ref C_BadCount) = some (.type "type"))
    (xq_BadCount_triple : PySem.W.findIn K (.ref C_BadCount) "triple" = some none)
    (xf2_BadCount : PySem.W.typeIn K (.ref f_BadCount___init__) = some (.type "function"))
    (fe__law_numbers : FnEZ K f__law_numbers "_law_numbers" "_law_numbers" s__law_numbers)
    (fe__law_cell : FnEZ K f__law_cell "_law_cell" "_law_cell" s__law_cell)
    (fe__law_triple : FnEZ K f__law_triple "_law_triple" "_law_triple" s__law_triple)
    (fe__law_is_count : FnEZ K f__law_is_count "_law_is_count" "_law_is_count" s__law_is_count)
    (fe_is_count : FnEZ K f_is_count "is_count" "is_count" s_is_count)
    (fe_ascending : FnEZ K f_ascending "ascending" "ascending" s_ascending)
    (cc_Book___init__ : PySem.W.codeIn K cd_Book___init__ "Book.__init__" = true)
    (kk_Book___init__ : PySem.W.keepIn K (.ref f_Book___init__) = true)
    (mf_Book___init__ : PySem.W.isFn K (.ref f_Book___init__) = true)
    (fe__law_is_int : FnEZ K f__law_is_int "_law_is_int" "_law_is_int" s__law_is_int)
    (fe__law_triples : FnEZ K f__law_triples "_law_triples" "_law_triples" s__law_triples)
    (fe_Book___len__ : FnEZ K f_Book___len__ "__len__" "Book.__len__" s_Book___len__)
    (mf_Book___len__ : PySem.W.isFn K (.ref f_Book___len__) = true)
    (fe__law_same_rows : FnEZ K f__law_same_rows "_law_same_rows" "_law_same_rows" s__law_same_rows)
    (fe_Book___iter__ : FnEZ K f_Book___iter__ "__iter__" "Book.__iter__" s_Book___iter__)
    (mf_Book___iter__ : PySem.W.isFn K (.ref f_Book___iter__) = true)
    (fe__law_same_book : FnEZ K f__law_same_book "_law_same_book" "_law_same_book" s__law_same_book)
    (fe_Book___contains__ : FnEZ K f_Book___contains__ "__contains__" "Book.__contains__" s_Book___contains__)
    (mf_Book___contains__ : PySem.W.isFn K (.ref f_Book___contains__) = true)
    (fe__law_looks : FnEZ K f__law_looks "_law_looks" "_law_looks" s__law_looks)
    (fe_law : FnEZ K f_law "law" "law" s_law)
    (fe_BadCount___init__ : FnEZ K f_BadCount___init__ "__init__" "BadCount.__init__" s_BadCount___init__)
    : ∃ fd : FuncData, (∀ (s : Shared) (v : Value), BindsTo s fd ⟨[v], []⟩ [("_law_script", v)]) ∧ ∀ base : Heap, K.In base → base.Ns mainGlobals mg → FnOk l.prog w K mg base (L2N.CX l.prog w) 7 fa fd ["_law_script"] (spLaw K) := by
  have e : f_law = fa := (Value.ref.inj (Option.some.inj (hfa.symm.trans (PySem.W.mg_of X G a_law)))).symm
  subst e
  have in_Book : C8.InsC K C_Book := ⟨⟨pg_Book, hd_Book, po_Book, sa_Book⟩, ha_Book, sp_get, tk_cls, hm_Book, me_Book⟩
  let T : Tx l.prog K mg := {
    C_KeeperError := C_KeeperError
    C_BadKey := C_BadKey
    C_BadCount := C_BadCount
    C_Book := C_Book
    f__law_numbers := f__law_numbers
    f__law_cell := f__law_cell
    f__law_triple := f__law_triple
    f__law_is_count := f__law_is_count
    f_is_count := f_is_count
    f_ascending := f_ascending
    f_Book___init__ := f_Book___init__
    f__law_is_int := f__law_is_int
    f__law_triples := f__law_triples
    f_Book___len__ := f_Book___len__
    f__law_same_rows := f__law_same_rows
    f_Book___iter__ := f_Book___iter__
    f__law_same_book := f__law_same_book
    f_Book___contains__ := f_Book___contains__
    f__law_looks := f__law_looks
    f_law := f_law
    f_BadCount___init__ := f_BadCount___init__
    fd__law_numbers := fe__law_numbers.fd
    fd__law_cell := fe__law_cell.fd
    fd__law_triple := fe__law_triple.fd
    fd__law_is_count := fe__law_is_count.fd
    fd_is_count := fe_is_count.fd
    fd_ascending := fe_ascending.fd
    fd_Book___init__ := PySem.W.fnOf "__init__" "Book.__init__" (defArgs s_Book___init__) (defBody s_Book___init__) (defScope s_Book___init__) (.ref T_Book___init__) kV_Book___init__ dc_Book___init__ pm_Book___init__ an_Book___init__ cd_Book___init__ ct_Book___init__
    fd__law_is_int := fe__law_is_int.fd
    fd__law_triples := fe__law_triples.fd
    fd_Book___len__ := fe_Book___len__.fd
    fd__law_same_rows := fe__law_same_rows.fd
    fd_Book___iter__ := fe_Book___iter__.fd
    fd__law_same_book := fe__law_same_book.fd
    fd_Book___contains__ := fe_Book___contains__.fd
    fd__law_looks := fe__law_looks.fd
    fd_law := fe_law.fd
    fd_BadCount___init__ := fe_BadCount___init__.fd
    E_Book___init__ := E_Book___init__
    v_MOST_COPIES := ⟨_, PySem.W.mg_of X G av_MOST_COPIES⟩
    n_all := PySem.W.mg_none_of X G z_all
    n_bool := PySem.W.mg_none_of X G z_bool
    n_int := PySem.W.mg_none_of X G z_int
    n_isinstance := PySem.W.mg_none_of X G z_isinstance
    n_iter := PySem.W.mg_none_of X G z_iter
    n_len := PySem.W.mg_none_of X G z_len
    n_list := PySem.W.mg_none_of X G z_list
    n_range := PySem.W.mg_none_of X G z_range
    n_tuple := PySem.W.mg_none_of X G z_tuple
    c_KeeperError := PySem.W.mg_of X G aC_KeeperError
    kp_KeeperError := kp_KeeperError
    c_BadKey := PySem.W.mg_of X G aC_BadKey
    kp_BadKey := kp_BadKey
    c_BadCount := PySem.W.mg_of X G aC_BadCount
    kp_BadCount := kp_BadCount
    c_Book := PySem.W.mg_of X G aC_Book
    kp_Book := kp_Book
    cl_Book := ⟨pg_Book, hd_Book, po_Book, sa_Book⟩
    mk_Book := mk_Book
    nI_Book := nA_Book_rows
    in_Book := ⟨⟨pg_Book, hd_Book, po_Book, sa_Book⟩, ha_Book, sp_get, tk_cls, hm_Book, me_Book⟩
    fd_rows := (ClsN.cons (PySem.W.mg_of X G aC_Book) ⟨pg_Book, hd_Book, po_Book, sa_Book⟩ nA_Book_rows ClsN.nil)
    xf_triple := (XfN.cons (PySem.W.mg_of X G aC_BadCount) ⟨eg_BadCount, ek_BadCount, es_BadCount, ed_BadCount⟩ xA_BadCount_triple XfN.nil)
    ist_bool := (IsTab.ty (kit_ty (by decide +kernel)) (IsTab.ty (kit_ty (by decide +kernel)) (IsTab.ty (kit_ty (by decide +kernel)) (IsTab.ty (kit_ty (by decide +kernel)) (IsTab.ty (kit_ty (by decide +kernel)) (IsTab.ty (kit_ty (by decide +kernel)) (IsTab.ty (kit_ty (by decide +kernel)) (IsTab.ty (kit_ty (by decide +kernel)) (IsTab.own (PySem.W.mg_of X G aC_Book) in_Book ik_Book_bool IsTab.nil)))))))))
    ist_int := (IsTab.ty (kit_ty (by decide +kernel)) (IsTab.ty (kit_ty (by decide +kernel)) (IsTab.ty (kit_ty (by decide +kernel)) (IsTab.ty (kit_ty (by decide +kernel)) (IsTab.ty (kit_ty (by decide +kernel)) (IsTab.ty (kit_ty (by decide +kernel)) (IsTab.ty (kit_ty (by decide +kernel)) (IsTab.ty (kit_ty (by decide +kernel)) (IsTab.own (PySem.W.mg_of X G aC_Book) in_Book ik_Book_int IsTab.nil)))))))))
    ist_list := (IsTab.ty (kit_ty (by decide +kernel)) (IsTab.ty (kit_ty (by decide +kernel)) (IsTab.ty (kit_ty (by decide +kernel)) (IsTab.ty (kit_ty (by decide +kernel)) (IsTab.ty (kit_ty (by decide +kernel)) (IsTab.ty (kit_ty (by decide +kernel)) (IsTab.ty (kit_ty (by decide +kernel)) (IsTab.ty (kit_ty (by decide +kernel)) (IsTab.own (PySem.W.mg_of X G aC_Book) in_Book ik_Book_list IsTab.nil)))))))))
    ist_tuple := (IsTab.ty (kit_ty (by decide +kernel)) (IsTab.ty (kit_ty (by decide +kernel)) (IsTab.ty (kit_ty (by decide +kernel)) (IsTab.ty (kit_ty (by decide +kernel)) (IsTab.ty (kit_ty (by decide +kernel)) (IsTab.ty (kit_ty (by decide +kernel)) (IsTab.ty (kit_ty (by decide +kernel)) (IsTab.ty (kit_ty (by decide +kernel)) (IsTab.own (PySem.W.mg_of X G aC_Book) in_Book ik_Book_tuple IsTab.nil)))))))))
    isx_BadKey := (IsTabX.own (PySem.W.mg_of X G aC_KeeperError) ⟨eg_KeeperError, ek_KeeperError, es_KeeperError, ed_KeeperError, ea_KeeperError, sp_get, tk_cls, em_KeeperError⟩ jk_KeeperError_BadKey (IsTabX.own (PySem.W.mg_of X G aC_BadKey) ⟨eg_BadKey, ek_BadKey, es_BadKey, ed_BadKey, ea_BadKey, sp_get, tk_cls, em_BadKey⟩ jk_BadKey_BadKey (IsTabX.own (PySem.W.mg_of X G aC_BadCount) ⟨eg_BadCount, ek_BadCount, es_BadCount, ed_BadCount, ea_BadCount, sp_get, tk_cls, em_BadCount⟩ jk_BadCount_BadKey IsTabX.nil)))
    isx_KeeperError := (IsTabX.own (PySem.W.mg_of X G aC_KeeperError) ⟨eg_KeeperError, ek_KeeperError, es_KeeperError, ed_KeeperError, ea_KeeperError, sp_get, tk_cls, em_KeeperError⟩ jk_KeeperError_KeeperError (IsTabX.own (PySem.W.mg_of X G aC_BadKey) ⟨eg_BadKey, ek_BadKey, es_BadKey, ed_BadKey, ea_BadKey, sp_get, tk_cls, em_BadKey⟩ jk_BadKey_KeeperError (IsTabX.own (PySem.W.mg_of X G aC_BadCount) ⟨eg_BadCount, ek_BadCount, es_BadCount, ed_BadCount, ea_BadCount, sp_get, tk_cls, em_BadCount⟩ jk_BadCount_KeeperError IsTabX.nil)))
    hd_BadCount := (HdTab.cons (PySem.W.mg_of X G aC_KeeperError) (PySem.W.exm_ref hb_BadCount hdd_BadCount ht_BadCount hs_KeeperError_BadCount) (HdTab.cons (PySem.W.mg_of X G aC_BadKey) (PySem.W.exm_ref hb_BadCount hdd_BadCount ht_BadCount hs_BadKey_BadCount) (HdTab.cons (PySem.W.mg_of X G aC_BadCount) (PySem.W.exm_ref hb_BadCount hdd_BadCount ht_BadCount hs_BadCount_BadCount) HdTab.nil)))
    ox_BadCount := ⟨⟨_, _, _, _, _, _, _, _, _, _, _, _, _, _, _, xL_BadCount, rfl⟩, xs_BadCount, xe_BadCount, xy_BadCount, kp_BadCount⟩
    xn_BadCount := (by intro f hf; simp only [List.mem_cons, List.not_mem_nil, or_false] at hf; rcases hf with rfl; exact xq_BadCount_triple)
    xf1_BadCount := xf1_BadCount
    xf2_BadCount := xf2_BadCount
    F__law_numbers := fe__law_numbers.F
    b__law_numbers := fe__law_numbers.F.binds fun _ _ _ _ _ _ us hl => match us, hl with | [_, _, _], _ => rfl
    g__law_numbers := PySem.W.mg_of X G a__law_numbers
    F__law_cell := fe__law_cell.F
    b__law_cell := fe__law_cell.F.binds fun _ _ _ _ _ _ us hl => match us, hl with | [_, _], _ => rfl
    g__law_cell := PySem.W.mg_of X G a__law_cell
    F__law_triple := fe__law_triple.F
    b__law_triple := fe__law_triple.F.binds fun _ _ _ _ _ _ us hl => match us, hl with | [_, _, _], _ => rfl
    g__law_triple := PySem.W.mg_of X G a__law_triple
    F__law_is_count := fe__law_is_count.F
    b__law_is_count := fe__law_is_count.F.binds fun _ _ _ _ _ _ us hl => match us, hl with | [_], _ => rfl
    g__law_is_count := PySem.W.mg_of X G a__law_is_count
    F_is_count := fe_is_count.F
    b_is_count := fe_is_count.F.binds fun _ _ _ _ _ _ us hl => match us, hl with | [_], _ => rfl
    g_is_count := PySem.W.mg_of X G a_is_count
    F_ascending := fe_ascending.F
    b_ascending := fe_ascending.F.binds fun _ _ _ _ _ _ us hl => match us, hl with | [_], _ => rfl
    g_ascending := PySem.W.mg_of X G a_ascending
    F_Book___init__ := funE_mk l_Book___init__ cc_Book___init__ kk_Book___init__ t_Book___init__
    df_Book___init__ := dfl_empty e_Book___init__
    b_Book___init__ := FunE.all (st := s_Book___init__) (funE_mk l_Book___init__ cc_Book___init__ kk_Book___init__ t_Book___init__) fun _ _ _ _ _ _ _ us its hu hi => match us, its, hu, hi with | [_, _], [_], _, _ => ⟨_, rfl, rfl⟩
    bd_Book___init__ := FunE.less (st := s_Book___init__) (funE_mk l_Book___init__ cc_Book___init__ kk_Book___init__ t_Book___init__) 1 rfl fun _ _ _ _ _ _ _ us its hu hi => match us, its, hu, hi with | [_], [_], _, _ => ⟨_, rfl, rfl⟩
    mt_Book___init__ := ⟨ma_Book___init__, mf_Book___init__, kk_Book___init__⟩
    F__law_is_int := fe__law_is_int.F
    b__law_is_int := fe__law_is_int.F.binds fun _ _ _ _ _ _ us hl => match us, hl with | [_], _ => rfl
    g__law_is_int := PySem.W.mg_of X G a__law_is_int
    F__law_triples := fe__law_triples.F
    b__law_triples := fe__law_triples.F.binds fun _ _ _ _ _ _ us hl => match us, hl with | [_], _ => rfl
    g__law_triples := PySem.W.mg_of X G a__law_triples
    F_Book___len__ := fe_Book___len__.F
    b_Book___len__ := fe_Book___len__.F.binds fun _ _ _ _ _ _ us hl => match us, hl with | [_], _ => rfl
    mt_Book___len__ := ⟨ma_Book___len__, mf_Book___len__, fe_Book___len__.kk⟩
    F__law_same_rows := fe__law_same_rows.F
    b__law_same_rows := fe__law_same_rows.F.binds fun _ _ _ _ _ _ us hl => match us, hl with | [_, _], _ => rfl
    g__law_same_rows := PySem.W.mg_of X G a__law_same_rows
    F_Book___iter__ := fe_Book___iter__.F
    b_Book___iter__ := fe_Book___iter__.F.binds fun _ _ _ _ _ _ us hl => match us, hl with | [_], _ => rfl
    mt_Book___iter__ := ⟨ma_Book___iter__, mf_Book___iter__, fe_Book___iter__.kk⟩
    F__law_same_book := fe__law_same_book.F
    b__law_same_book := fe__law_same_book.F.binds fun _ _ _ _ _ _ us hl => match us, hl with | [_, _], _ => rfl
    g__law_same_book := PySem.W.mg_of X G a__law_same_book
    F_Book___contains__ := fe_Book___contains__.F
    b_Book___contains__ := fe_Book___contains__.F.binds fun _ _ _ _ _ _ us hl => match us, hl with | [_, _], _ => rfl
    mt_Book___contains__ := ⟨ma_Book___contains__, mf_Book___contains__, fe_Book___contains__.kk⟩
    F__law_looks := fe__law_looks.F
    b__law_looks := fe__law_looks.F.binds fun _ _ _ _ _ _ us hl => match us, hl with | [_, _, _], _ => rfl
    g__law_looks := PySem.W.mg_of X G a__law_looks
    F_law := fe_law.F
    b_law := fe_law.F.binds fun _ _ _ _ _ _ us hl => match us, hl with | [_], _ => rfl
    F_BadCount___init__ := fe_BadCount___init__.F
    b_BadCount___init__ := fe_BadCount___init__.F.binds fun _ _ _ _ _ _ us hl => match us, hl with | [_, _], _ => rfl
  }
  exact ⟨fe_law.fd, fun s v => .of_eq rfl, fun base _ _ => law_end (ok_law T) says⟩
theorem all_z {w : World} {K : PySem.W.Frag} {h : Heap} {mg : Str → Option Value} {fa : Addr} (X : K.In h) (G : h.Ns mainGlobals mg) (hfa : mg "law" = some (.ref fa)) (c : SaysZ chkZ fnZl vsZl K)
    : ∃ fd : FuncData, (∀ (s : Shared) (v : Value), BindsTo s fd ⟨[v], []⟩ [("_law_script", v)]) ∧ ∀ base : Heap, K.In base → base.Ns mainGlobals mg → FnOk PySem.Challenge.rw_partkeepers_k04_counts_of_a_book.prog w K mg base (L2N.CX PySem.Challenge.rw_partkeepers_k04_counts_of_a_book.prog w) 7 fa fd ["_law_script"] (spLaw K) := by
  have q := c.1
  obtain ⟨k0, q⟩ := He.ba q
  obtain ⟨k1, q⟩ := He.ba q
  obtain ⟨k2, q⟩ := He.ba q
  have k3 := q
  obtain ⟨fe__law_numbers⟩ := fn_okE (He.ga K "_law_numbers") "_law_numbers" "_law_numbers" s__law_numbers (c.fn_ 0 rfl rfl) (ck_at k0 0 rfl) (ck_d k0 1 rfl)
  obtain ⟨fe__law_cell⟩ := fn_okE (He.ga K "_law_cell") "_law_cell" "_law_cell" s__law_cell (c.fn_ 1 rfl rfl) (ck_at k0 2 rfl) (ck_d k0 3 rfl)
  obtain ⟨fe__law_triple⟩ := fn_okE (He.ga K "_law_triple") "_law_triple" "_law_triple" s__law_triple (c.fn_ 2 rfl rfl) (ck_at k0 4 rfl) (ck_d k0 5 rfl)
  obtain ⟨fe__law_is_count⟩ := fn_okE (He.ga K "_law_is_count") "_law_is_count" "_law_is_count" s__law_is_count (c.fn_ 3 rfl rfl) (ck_at k0 6 rfl) (ck_d k0 7 rfl)
  obtain ⟨fe_is_count⟩ := fn_okE (He.ga K "is_count") "is_count" "is_count" s_is_count (c.fn_ 4 rfl rfl) (ck_at k0 8 rfl) (ck_d k0 9 rfl)
  obtain ⟨fe_ascending⟩ := fn_okE (He.ga K "ascending") "ascending" "ascending" s_ascending (c.fn_ 5 rfl rfl) (ck_at k0 10 rfl) (ck_d k0 11 rfl)
  obtain ⟨T_Book___init__, E_Book___init__, tc_Book___init__, td_Book___init__, te_Book___init__, tn_Book___init__, en_Book___init__, ts_Book___init__, es_Book___init__, oc_Book___init__, od_Book___init__, sl_Book___init__, kV_Book___init__, dc_Book___init__, pm_Book___init__, an_Book___init__, cd_Book___init__, ct_Book___init__, l_Book___init__, cc_Book___init__, t_Book___init__, e_Book___init__⟩ := fn_okD (f := He.ma K (He.ga K "Book") "__init__") (n := "__init__") (q := "Book.__init__") (ps := defArgs s_Book___init__) (b := defBody s_Book___init__) (sc := defScope s_Book___init__) (c.fn_ 6 rfl rfl) (ck_at k0 12 rfl)
  obtain ⟨fe__law_is_int⟩ := fn_okE (He.ga K "_law_is_int") "_law_is_int" "_law_is_int" s__law_is_int (c.fn_ 7 rfl rfl) (ck_at k0 13 rfl) (ck_d k0 14 rfl)
  obtain ⟨fe__law_triples⟩ := fn_okE (He.ga K "_law_triples") "_law_triples" "_law_triples" s__law_triples (c.fn_ 8 rfl rfl) (ck_at k0 15 rfl) (ck_d k0 16 rfl)
  obtain ⟨fe_Book___len__⟩ := fn_okE (He.ma K (He.ga K "Book") "__len__") "__len__" "Book.__len__" s_Book___len__ (c.fn_ 9 rfl rfl) (ck_at k0 17 rfl) (ck_d k0 18 rfl)
  obtain ⟨fe__law_same_rows⟩ := fn_okE (He.ga K "_law_same_rows") "_law_same_rows" "_law_same_rows" s__law_same_rows (c.fn_ 10 rfl rfl) (ck_at k0 19 rfl) (ck_d k0 20 rfl)
  obtain ⟨fe_Book___iter__⟩ := fn_okE (He.ma K (He.ga K "Book") "__iter__") "__iter__" "Book.__iter__" s_Book___iter__ (c.fn_ 11 rfl rfl) (ck_at k0 21 rfl) (ck_d k0 22 rfl)
  obtain ⟨fe__law_same_book⟩ := fn_okE (He.ga K "_law_same_book") "_law_same_book" "_law_same_book" s__law_same_book (c.fn_ 12 rfl rfl) (ck_at k0 23 rfl) (ck_d k0 24 rfl)
  obtain ⟨fe_Book___contains__⟩ := fn_okE (He.ma K (He.ga K "Book") "__contains__") "__contains__" "Book.__contains__" s_Book___contains__ (c.fn_ 13 rfl rfl) (ck_at k0 25 rfl) (ck_d k0 26 rfl)
  obtain ⟨fe__law_looks⟩ := fn_okE (He.ga K "_law_looks") "_law_looks" "_law_looks" s__law_looks (c.fn_ 14 rfl rfl) (ck_at k0 27 rfl) (ck_d k0 28 rfl)
  obtain ⟨fe_law⟩ := fn_okE (He.ga K "law") "law" "law" s_law (c.fn_ 15 rfl rfl) (ck_at k0 29 rfl) (ck_d k0 30 rfl)
  obtain ⟨fe_BadCount___init__⟩ := fn_okE (He.ma K (He.ga K "BadCount") "__init__") "__init__" "BadCount.__init__" s_BadCount___init__ (c.fn_ 16 rfl rfl) (ck_at k0 31 rfl) (ck_d k0 32 rfl)
  obtain ⟨tk_MOST_COPIES, av_MOST_COPIES⟩ := intB_ok (x := "MOST_COPIES") (i := 6) (ck_at k0 33 rfl)
  obtain ⟨nm_BadCount, qq_BadCount, N_BadCount, bs_BadCount, sn_BadCount, sb_BadCount, ab_BadCount, co_BadCount, dd_BadCount, m0_BadCount, m1_BadCount, m2_BadCount, m3_BadCount, m5_BadCount, xL_BadCount⟩ := excB_ok (C := He.ga K "BadCount") (bm := [.ref (He.ga K "KeeperError"), .type "ValueError", .type "Exception", .type "BaseException", .type "object"]) (nid := "ValueError.__new__") (ck_at k2 17 rfl)
  exact all_mk (l := PySem.Challenge.rw_partkeepers_k04_counts_of_a_book) (C_KeeperError := He.ga K "KeeperError") (C_BadKey := He.ga K "BadKey") (C_BadCount := He.ga K "BadCount") (C_Book := He.ga K "Book") (f__law_numbers := He.ga K "_law_numbers") (f__law_cell := He.ga K "_law_cell") (f__law_triple := He.ga K "_law_triple") (f__law_is_count := He.ga K "_law_is_count") (f_is_count := He.ga K "is_count") (f_ascending := He.ga K "ascending") (f_Book___init__ := He.ma K (He.ga K "Book") "__init__") (f__law_is_int := He.ga K "_law_is_int") (f__law_triples := He.ga K "_law_triples") (f_Book___len__ := He.ma K (He.ga K "Book") "__len__") (f__law_same_rows := He.ga K "_law_same_rows") (f_Book___iter__ := He.ma K (He.ga K "Book") "__iter__") (f__law_same_book := He.ga K "_law_same_book") (f_Book___contains__ := He.ma K (He.ga K "Book") "__contains__") (f__law_looks := He.ga K "_law_looks") (f_law := He.ga K "law") (f_BadCount___init__ := He.ma K (He.ga K "BadCount") "__init__") X G hfa (ck_d k1 3 rfl) (ck_d k1 5 rfl) (ck_d k1 7 rfl) (ck_d k1 9 rfl) (ck_d k2 22 rfl) (ck_d k2 24 rfl) (ck_d k2 25 rfl) (ck_d k2 26 rfl) (ck_d k2 27 rfl) (ck_d k2 28 rfl) (ck_d k2 29 rfl) (ck_d k2 31 rfl) (ck_d k2 33 rfl) (ck_d k2 34 rfl) (ck_d k2 35 rfl) (ck_d k2 37 rfl) (ck_d k2 38 rfl) (ck_d k3 0 rfl) (ck_d k3 1 rfl) (ck_d k3 3 rfl) (ck_d k3 4 rfl) av_MOST_COPIES xL_BadCount l_Book___init__ t_Book___init__ e_Book___init__ (ck_d k0 34 rfl) (ck_d k0 35 rfl) (ck_d k0 36 rfl) (ck_d k0 37 rfl) (ck_d k0 38 rfl) (ck_d k0 39 rfl) (ck_d k1 0 rfl) (ck_d k1 1 rfl) (ck_d k1 2 rfl) (ck_d k1 4 rfl) (ck_d k1 6 rfl) (ck_d k1 8 rfl) (ck_d k1 10 rfl) (ck_d k1 11 rfl) (ck_d k1 12 rfl) (ck_d k1 13 rfl) (ck_d k1 14 rfl) (ck_d k1 15 rfl) (ck_d k1 16 rfl) (ck_d k1 17 rfl) (ck_d k1 18 rfl) (ck_d k1 19 rfl) (ck_d k1 20 rfl) (ck_d k1 21 rfl) (ck_d k1 22 rfl) (ck_d k1 23 rfl) (ck_d k1 24 rfl) (ck_d k1 25 rfl) (ck_d k1 26 rfl) (ck_d k1 27 rfl) (ck_d k1 28 rfl) (ck_d k1 29 rfl) (ck_d k1 30 rfl) (ck_d k1 31 rfl) (ck_d k1 32 rfl) (ck_d k1 33 rfl) (ck_d k1 34 rfl) (ck_d k1 35 rfl) (ck_d k1 36 rfl) (ck_d k1 37 rfl) (ck_d k1 38 rfl) (ck_d k1 39 rfl) (ck_d k2 0 rfl) (ck_d k2 1 rfl) (ck_d k2 2 rfl) (ck_d k2 3 rfl) (ck_d k2 4 rfl) (ck_d k2 5 rfl) (ck_d k2 6 rfl) (ck_d k2 7 rfl) (ck_d k2 8 rfl) (ck_d k2 9 rfl) (ck_d k2 10 rfl) (ck_d k2 11 rfl) (ck_d k2 12 rfl) (ck_d k2 13 rfl) (ck_d k2 14 rfl) (ck_d k2 15 rfl) (ck_d k2 16 rfl) (ck_d k2 18 rfl) (ck_d k2 19 rfl) (ck_d k2 20 rfl) (ck_d k2 21 rfl) (ck_d k2 23 rfl) fe__law_numbers fe__law_cell fe__law_triple fe__law_is_count fe_is_count fe_ascending cc_Book___init__ (ck_d k2 30 rfl) (ck_d k2 32 rfl) fe__law_is_int fe__law_triples fe_Book___len__ (ck_d k2 36 rfl) fe__law_same_rows fe_Book___iter__ (ck_d k2 39 rfl) fe__law_same_book fe_Book___contains__ (ck_d k3 2 rfl) fe__law_looks fe_law fe_BadCount___init__
end Z
open PySem PySem.W PySem.Calls PyProof.Rows
set_option maxRecDepth 100000 in
set_option maxHeartbeats 0 in
theorem PySem.Challenge.cw_partkeepers_k04_counts_of_a_book_holds : PySem.Challenge.rw_partkeepers_k04_counts_of_a_book.Holds := by
  w_on; o_law
  refine HandSHeadRun.head_any (r := (PySem.W.OpenLaw.row PySem.Challenge.rw_partkeepers_k04_counts_of_a_book)) (q := PySem.W.view (PySem.W.OpenLaw.row PySem.Challenge.rw_partkeepers_k04_counts_of_a_book).prog [20]) (H := Z.hk) (ob := Z.obZ) (M := 60000) (loose := Z.loose) (d := HandSHeadRun.topDef (PySem.W.OpenLaw.row PySem.Challenge.rw_partkeepers_k04_counts_of_a_book).prog 20) (kwd := []) (fun s => Z.obsZ_eq (HandSHeadRun.getT_eq s)) (by kernel_rfl) (fun s => by kernel_rfl) Z.runZ (by kernel_rfl) (by kernel_rfl) (by kernel_rfl) (by rfl) (by first | assumption | decide +kernel) (by decide +kernel) ⟨rfl, rfl, rfl, rfl, rfl, by decide +kernel⟩ ?hw ?hc
  case hw => w_witness2
  case hc =>
    refine Z.walkE (l := PySem.Challenge.rw_partkeepers_k04_counts_of_a_book) (k := 7) (x := "_law_script") rfl (by kernel_rfl) ⟨rfl, by decide, by decide⟩ ?F
    intro w mg fa h Y G hmg0
    obtain ⟨K, KX, c⟩ := Y
    have hmg : mg ("law" : PySem.Str) = some (.ref fa) := by
      have e : (HandSHeadRun.topDef (PySem.W.OpenLaw.row PySem.Challenge.rw_partkeepers_k04_counts_of_a_book).prog 20).name = ("law" : PySem.Str) := by kernel_rfl
      rw [← e]
      exact hmg0
    exact ⟨K, KX, Z.all_z KX G hmg c⟩
