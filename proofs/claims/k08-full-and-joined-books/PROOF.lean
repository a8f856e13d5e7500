import PyProof.Rows.All
import Wide.All
import OpenK.AllK
import Wide.FinOn
import HandS.ForMost
import HandS.Exc
import HandS.ExcOwn
import HandS.WordsExc
import HandS.CallSlots
import HandS.Wide
import HandS.Slots
import HandS.TupAny
import HandS.Deep
import HandS.TupLe
import HandS.ExcInit
import HandS.ExcField
import HandS.ExcIs
import HandS.TryMany
import HandS.More
import HandS.SetFor
import HandS.Small
import HandS.Text
import HandS.IsInst
import HandS.Codes
import KE.KExcIs
import HandS.HotCalls
import HandS.OwnEq
import HandS.IterNext
import HandS.IterVal
import HandS.OwnIter
import HandS.Finally
import HandS.ExcInitHot
import HandS.EndBits
import HandS.Conv
import HandS.DictComp
import HandS.Iter
import HandS.TupLen
import KE.KEqDict
import HandS.ExcValue
import KE.KDictWalk
import HandS.Defaults
import HandS.Lambda
import HandS.FStr
import PyProof.FString3
import PyProof.Rows.StrIntSpec
import KE.KStrBytes
import HandS.Bytes
import HandS.StrMore
import HandS.SlotsOwn
import HandS.Property
import KE.KBytesDec
import KE.KBytesMap
import Wide.BytesFacts
import KE.IntTextLaws
import KE.KBytesCut
import HandS.Style
import KE.KDictCopyH
import KE.KDictOf
import HandS.Flow
import KE.KExcRaise
import KE.KSuper
import HandS.ClsMeth
import KE.KStateDown
import HandS.Head0
import HandS.Head1
import HandS.Head2
import HandS.HeadEnd
import HandS.HeadHook1
import HandS.GenList
import HandS.TupSets
import PyProof.CollectIter
import HandS.Star
import HandS.HeadNt
import PySem.Challenge.RW_partkeepers_k08_full_and_joined_books
set_option Elab.async false
set_option linter.all false
set_option maxRecDepth 100000
namespace Z
open PySem PySem.Spec PyProof.Rows L2
inductive W where
  | non
  | bl (b : Bool)
  | int (i : Int)
  | str (x : Str)
  | byt (b : Array UInt8)
  | tup (ws : List W)
  | lst (ws : List W)
  | frl (ws : List W)
  | dK (kvs : List (Key × W))
  | dT (kvs : List (List Key × W))
  | dF (kvs : List (List Key × W))
  | obj (nm : Str) (fs : List (Str × W))
  | slt (nm : Str) (ws : List W)
  | ref (n : Nat)
instance : Inhabited W := ⟨.non⟩
inductive Cell where
  | lst (ws : List W)
  | dK (kvs : List (Key × W))
  | dT (kvs : List (List Key × W))
  | ins (nm : Str) (fs : List (Str × W))
def Cell.toW : Cell → W
  | .lst ws => .lst ws
  | .dK k => .dK k
  | .dT k => .dT k
  | .ins n f => .obj n f
@[simp] theorem toW_lst {ws : List W} : (Cell.lst ws).toW = .lst ws := rfl
@[simp] theorem toW_dK {ws : List (Key × W)} : (Cell.dK ws).toW = .dK ws := rfl
@[simp] theorem toW_dT {ws : List (List Key × W)} : (Cell.dT ws).toW = .dT ws := rfl
@[simp] theorem toW_ins {n : Str} {ws : List (Str × W)} : (Cell.ins n ws).toW = .obj n ws := rfl
structure Ex where
  nm : Str
  fs : List (Str × W)
inductive SV where
  | non
  | val (w : W)
  | own (c : Cell)
  | exc (x : Ex)
structure EA where
  a : Addr
  cls : Value
  d : Option Addr
def ea0 : EA := ⟨0, .none, none⟩
inductive RV where
  | val (w : W)
  | own (c : Cell)
  | hnd (i : Nat)
structure S where
  r : List SV
  G : List Cell
section
variable (K : PySem.W.Frag) (mg : Str → Option Value)
def KT (a : Addr) (vs : List V) : Prop := ∃ (o : Obj) (its : Array Value) (n : Nat), K.lookup a = some o ∧ o.cls = .type "tuple" ∧ o.data = .seq its n ∧ its.size ≤ sizeLine ∧ Vals vs its.toList
def KL (a : Addr) (vs : List V) : Prop := ∃ (o : Obj) (its : Array Value) (n : Nat), K.lookup a = some o ∧ o.cls = .type "list" ∧ o.dict = none ∧ o.data = .seq its n ∧ its.size ≤ sizeLine ∧ Vals vs its.toList
inductive Rw (io : List Addr) (M : Addr → Prop) (H : Hp) : W → V → Prop
  | non : Rw io M H .non .non
  | bl (b : Bool) : Rw io M H (.bl b) (.bl b)
  | int (i : Int) : Rw io M H (.int i) (.int i)
  | str (x : Str) : Rw io M H (.str x) (.str x)
  | byt (b : Array UInt8) : Rw io M H (.byt b) (.byt b)
  | tup {ws : List W} {a : Addr} {vs : List V} : ((H a = some (.tup vs) ∧ ¬ M a) ∨ (KT K a vs ∧ vs = [])) → ws.length = vs.length → (∀ (i : Nat) (w : W) (v : V), ws[i]? = some w → vs[i]? = some v → Rw io M H w v) → Rw io M H (.tup ws) (.ref a)
  | frl {ws : List W} {a : Addr} {vs : List V} : ((Rd H a (.lst vs) ∧ ¬ M a) ∨ KL K a vs) → ws.length = vs.length → (∀ (i : Nat) (w : W) (v : V), ws[i]? = some w → vs[i]? = some v → Rw io M H w v) → Rw io M H (.frl ws) (.ref a)
  | lst {ws : List W} {a : Addr} {vs : List V} : H a = some (.lst vs) → ¬ M a → ws.length = vs.length → (∀ (i : Nat) (w : W) (v : V), ws[i]? = some w → vs[i]? = some v → Rw io M H w v) → Rw io M H (.lst ws) (.ref a)
  | dK {ws : List (Key × W)} {a : Addr} {vs : List (Key × V)} : Rd H a (.dK vs) → ¬ M a → ws.map (·.1) = vs.map (·.1) → (∀ (i : Nat) (w : W) (v : V), (ws.map (·.2))[i]? = some w → (vs.map (·.2))[i]? = some v → Rw io M H w v) → Rw io M H (.dK ws) (.ref a)
  | dT {ws : List (List Key × W)} {a : Addr} {vs : List (List Key × V)} : Rd H a (.dT vs) → ¬ M a → ws.map (·.1) = vs.map (·.1) → (∀ (i : Nat) (w : W) (v : V), (ws.map (·.2))[i]? = some w → (vs.map (·.2))[i]? = some v → Rw io M H w v) → Rw io M H (.dT ws) (.ref a)
  | dF {ws : List (List Key × W)} {a : Addr} {ob : Obj} {vs : List (List Key × V)} : H a = some (.frz ob (.dT vs)) → ¬ M a → ws.map (·.1) = vs.map (·.1) → (∀ (i : Nat) (w : W) (v : V), (ws.map (·.2))[i]? = some w → (vs.map (·.2))[i]? = some v → Rw io M H w v) → Rw io M H (.dF ws) (.ref a)
  | obj {nm : Str} {ws : List (Str × W)} {a C dx : Addr} {vs : List (Str × V)} : mg nm = some (.ref C) → H a = some (.ins C dx vs) → ¬ M a → ws.map (·.1) = vs.map (·.1) → (∀ (i : Nat) (w : W) (v : V), (ws.map (·.2))[i]? = some w → (vs.map (·.2))[i]? = some v → Rw io M H w v) → Rw io M H (.obj nm ws) (.ref a)
  | slt {nm : Str} {ws : List W} {a C dx : Addr} {vs : List V} : mg nm = some (.ref C) → H a = some (SlX.SlO a C dx (vs.map some)) → ¬ M a → H dx = some (.xd []) → ¬ M dx → ws.length = vs.length → (∀ (i : Nat) (w : W) (v : V), ws[i]? = some w → vs[i]? = some v → Rw io M H w v) → Rw io M H (.slt nm ws) (.ref a)
  | ref {n : Nat} {a : Addr} : io[n]? = some a → Rw io M H (.ref n) (.ref a)
def Rws (io : List Addr) (M : Addr → Prop) (H : Hp) (ws : List W) (vs : List V) : Prop :=
  ws.length = vs.length ∧ ∀ (i : Nat) (w : W) (v : V), ws[i]? = some w → vs[i]? = some v → Rw K mg io M H w v
def Rkv {κ : Type} (io : List Addr) (M : Addr → Prop) (H : Hp) (ws : List (κ × W)) (vs : List (κ × V)) : Prop :=
  ws.map (·.1) = vs.map (·.1) ∧ Rws K mg io M H (ws.map (·.2)) (vs.map (·.2))
end
section
variable {K : PySem.W.Frag} {mg : Str → Option Value} {io io' : List Addr} {M M' : Addr → Prop} {H H' : Hp} {w : W} {v : V} {ws : List W} {vs : List V}
structure Pers (io : List Addr) (M : Addr → Prop) (H : Hp) (io' : List Addr) (M' : Addr → Prop) (H' : Hp) : Prop where
  keep : ∀ a o, H a = some o → ¬ M a → H' a = some o
  new : ∀ a, M' a → M a ∨ H a = none
  ext : ∀ (n : Nat) (a : Addr), io[n]? = some a → io'[n]? = some a
theorem Pers.notin (p : Pers io M H io' M' H') {a : Addr} {o : HO} (h : H a = some o) (hM : ¬ M a) : ¬ M' a := fun z => by
  rcases p.new a z with q | q
  · exact hM q
  · rw [h] at q; cases q
theorem Rd.some_of {a : Addr} {u : HO} (h : Rd H a u) : ∃ o, H a = some o := by
  rcases h with h | ⟨o, h⟩
  · exact ⟨_, h⟩
  · exact ⟨_, h⟩
theorem Pers.rd (p : Pers io M H io' M' H') {a : Addr} {u : HO} (h : Rd H a u) (hM : ¬ M a) : Rd H' a u := by
  rcases h with h | ⟨o, h⟩
  · exact .inl (p.keep _ _ h hM)
  · exact .inr ⟨o, p.keep _ _ h hM⟩
theorem Pers.notin' (p : Pers io M H io' M' H') {a : Addr} {u : HO} (h : Rd H a u) (hM : ¬ M a) : ¬ M' a :=
  let ⟨_, q⟩ := Rd.some_of h
  p.notin q hM
theorem Rw.pers (p : Pers io M H io' M' H') (h : Rw K mg io M H w v) : Rw K mg io' M' H' w v := by
  induction h with
  | non => exact .non
  | bl b => exact .bl b
  | int i => exact .int i
  | str x => exact .str x
  | byt b => exact .byt b
  | tup h l _ ih => exact .tup (h.imp (fun ⟨x, y⟩ => ⟨p.keep _ _ x y, p.notin x y⟩) id) l ih
  | frl h l _ ih => exact .frl (h.imp (fun ⟨x, y⟩ => ⟨p.rd x y, p.notin' x y⟩) id) l ih
  | lst h n l _ ih => exact .lst (p.keep _ _ h n) (p.notin h n) l ih
  | dK h n l _ ih => exact .dK (p.rd h n) (p.notin' h n) l ih
  | dT h n l _ ih => exact .dT (p.rd h n) (p.notin' h n) l ih
  | dF h n l _ ih => exact .dF (p.keep _ _ h n) (p.notin h n) l ih
  | obj m h n l _ ih => exact .obj m (p.keep _ _ h n) (p.notin h n) l ih
  | slt m h n h2 n2 l _ ih => exact .slt m (p.keep _ _ h n) (p.notin h n) (p.keep _ _ h2 n2) (p.notin h2 n2) l ih
  | ref h => exact .ref (p.ext _ _ h)
theorem Rws.pers (p : Pers io M H io' M' H') (h : Rws K mg io M H ws vs) : Rws K mg io' M' H' ws vs := ⟨h.1, fun i w v a b => (h.2 i w v a b).pers p⟩
theorem Rkv.pers {κ : Type} {ws : List (κ × W)} {vs : List (κ × V)} (p : Pers io M H io' M' H') (h : Rkv K mg io M H ws vs) : Rkv K mg io' M' H' ws vs := ⟨h.1, h.2.pers p⟩
theorem Pers.refl : Pers io M H io M H := ⟨fun _ _ h _ => h, fun _ h => .inl h, fun _ _ h => h⟩
theorem Pers.less (h : ∀ a, M' a → M a) : Pers io M H io M' H := ⟨fun _ _ h _ => h, fun a z => .inl (h a z), fun _ _ h => h⟩
theorem Rws.nil : Rws K mg io M H [] [] := ⟨rfl, fun i w v h => by simp at h⟩
theorem Rws.cons (h : Rw K mg io M H w v) (t : Rws K mg io M H ws vs) : Rws K mg io M H (w :: ws) (v :: vs) := by
  refine ⟨by simp [t.1], fun i a b ha hb => ?_⟩
  cases i with
  | zero => simp at ha hb; subst ha; subst hb; exact h
  | succ i => exact t.2 i a b (by simpa using ha) (by simpa using hb)
theorem Rws.cons_inv (h : Rws K mg io M H (w :: ws) vs) : ∃ v r, vs = v :: r ∧ Rw K mg io M H w v ∧ Rws K mg io M H ws r := by
  cases vs with
  | nil => have := h.1; simp at this
  | cons v r => exact ⟨v, r, rfl, h.2 0 w v rfl rfl, by have := h.1; simpa using this, fun i a b ha hb => h.2 (i + 1) a b (by simpa using ha) (by simpa using hb)⟩
theorem Rws.nil_inv (h : Rws K mg io M H [] vs) : vs = [] := by
  have := h.1
  cases vs with
  | nil => rfl
  | cons _ _ => simp at this
theorem Rws.get (h : Rws K mg io M H ws vs) {i : Nat} (e : ws[i]? = some w) : ∃ v, vs[i]? = some v ∧ Rw K mg io M H w v := by
  have hi : i < ws.length := by
    rcases Nat.lt_or_ge i ws.length with q | q
    · exact q
    · rw [List.getElem?_eq_none_iff.mpr q] at e; cases e
  have hv : i < vs.length := by rw [← h.1]; exact hi
  exact ⟨vs[i], by simp [hv], h.2 i w _ e (by simp [hv])⟩
theorem Rws.append {ws' : List W} {vs' : List V} (h : Rws K mg io M H ws vs) (t : Rws K mg io M H ws' vs') : Rws K mg io M H (ws ++ ws') (vs ++ vs') := by
  refine ⟨by simp [h.1, t.1], fun i a b ha hb => ?_⟩
  rcases Nat.lt_or_ge i ws.length with q | q
  · rw [List.getElem?_append_left q] at ha
    rw [List.getElem?_append_left (by rw [← h.1]; exact q)] at hb
    exact h.2 i a b ha hb
  · rw [List.getElem?_append_right q] at ha
    rw [List.getElem?_append_right (by rw [← h.1]; exact q)] at hb
    rw [← h.1] at hb
    exact t.2 _ a b ha hb
theorem Rws.one (h : Rw K mg io M H w v) : Rws K mg io M H [w] [v] := Rws.cons h Rws.nil
theorem Rws.set (h : Rws K mg io M H ws vs) {i : Nat} (hw : Rw K mg io M H w v) : Rws K mg io M H (ws.set i w) (vs.set i v) := by
  refine ⟨by simp [h.1], fun j a b ha hb => ?_⟩
  by_cases e : i = j
  · subst e
    rcases Nat.lt_or_ge i ws.length with q | q
    · rw [List.getElem?_set_self q] at ha
      rw [List.getElem?_set_self (by rw [← h.1]; exact q)] at hb
      cases ha; cases hb; exact hw
    · rw [List.getElem?_eq_none (by simpa using q)] at ha; cases ha
  · rw [List.getElem?_set_ne e] at ha hb
    exact h.2 j a b ha hb
theorem Rws.take (h : Rws K mg io M H ws vs) (n : Nat) : Rws K mg io M H (ws.take n) (vs.take n) := by
  refine ⟨by simp [h.1], fun i a b ha hb => ?_⟩
  rw [List.getElem?_take] at ha hb
  split at ha
  · rename_i q
    rw [if_pos q] at hb
    exact h.2 i a b ha hb
  · cases ha
theorem Rws.drop (h : Rws K mg io M H ws vs) (n : Nat) : Rws K mg io M H (ws.drop n) (vs.drop n) := by
  refine ⟨by simp [h.1], fun i a b ha hb => ?_⟩
  rw [List.getElem?_drop] at ha hb
  exact h.2 _ a b ha hb
theorem Rkv.nil {κ : Type} : Rkv (κ := κ) K mg io M H [] [] := ⟨rfl, Rws.nil⟩
theorem Rkv.cons {κ : Type} {k : κ} {ws : List (κ × W)} {vs : List (κ × V)} (h : Rw K mg io M H w v) (t : Rkv K mg io M H ws vs) : Rkv K mg io M H ((k, w) :: ws) ((k, v) :: vs) := ⟨by simp [t.1], Rws.cons h t.2⟩
theorem Rkv.cons_inv {κ : Type} {k : κ} {ws : List (κ × W)} {vs : List (κ × V)} (h : Rkv K mg io M H ((k, w) :: ws) vs) : ∃ v r, vs = (k, v) :: r ∧ Rw K mg io M H w v ∧ Rkv K mg io M H ws r := by
  cases vs with
  | nil => have := h.1; simp at this
  | cons p r =>
    obtain ⟨k', v⟩ := p
    have e := h.1
    simp only [List.map_cons, List.cons.injEq] at e
    obtain ⟨v', r', e', h1, h2⟩ := Rws.cons_inv (by simpa using h.2 : Rws K mg io M H (w :: ws.map (·.2)) (((k', v) :: r).map (·.2)))
    simp only [List.map_cons, List.cons.injEq] at e'
    obtain ⟨rfl, e2⟩ := e'
    obtain ⟨rfl, e1⟩ := e
    exact ⟨v, r, rfl, h1, e1, by rw [e2]; exact h2⟩
theorem Rkv.nil_inv {κ : Type} {vs : List (κ × V)} (h : Rkv K mg io M H [] vs) : vs = [] := by
  have := h.1
  cases vs with
  | nil => rfl
  | cons _ _ => simp at this
theorem Rkv.length {κ : Type} {ws : List (κ × W)} {vs : List (κ × V)} (h : Rkv K mg io M H ws vs) : ws.length = vs.length := by
  have := congrArg List.length h.1
  simpa using this
theorem Rkv.lookup {κ : Type} [BEq κ] {k : κ} {vs : List (κ × V)} : ∀ {ws : List (κ × W)} {vs : List (κ × V)}, Rkv K mg io M H ws vs → ws.lookup k = some w → ∃ v, vs.lookup k = some v ∧ Rw K mg io M H w v
  | [], _, _, e => by simp at e
  | (k', w') :: ws, vs, h, e => by
    obtain ⟨v, r, rfl, h1, h2⟩ := Rkv.cons_inv h
    by_cases q : (k == k') = true
    · rw [List.lookup_cons, q] at e
      simp at e
      subst e
      exact ⟨v, by rw [List.lookup_cons, q], h1⟩
    · have q' : (k == k') = false := by simpa using q
      rw [List.lookup_cons, q'] at e
      obtain ⟨u, h3, h4⟩ := Rkv.lookup (vs := r) h2 e
      exact ⟨u, by rw [List.lookup_cons, q']; exact h3, h4⟩
theorem Rkv.lookup_none {κ : Type} [BEq κ] {k : κ} : ∀ {ws : List (κ × W)} {vs : List (κ × V)}, Rkv K mg io M H ws vs → ws.lookup k = none → vs.lookup k = none
  | [], _, h, _ => by rw [h.nil_inv]; rfl
  | (k', w') :: ws, vs, h, e => by
    obtain ⟨v, r, rfl, h1, h2⟩ := Rkv.cons_inv h
    by_cases q : (k == k') = true
    · rw [List.lookup_cons, q] at e
      simp at e
    · have q' : (k == k') = false := by simpa using q
      rw [List.lookup_cons, q'] at e ⊢
      exact Rkv.lookup_none h2 e
def Nt (o : HO) : Prop := ∀ vs, o ≠ .tup vs
theorem Nt.of {H : Hp} {a : Addr} {o : HO} (h : H a = some o) (n : Nt o) (vs : List V) : H a ≠ some (.tup vs) := fun z => n vs (Option.some.inj (h.symm.trans z))
def Rc (K : PySem.W.Frag) (mg : Str → Option Value) (io : List Addr) (M : Addr → Prop) (H : Hp) : Cell → HO → Prop
  | .lst ws, o => ∃ vs, o = .lst vs ∧ Rws K mg io M H ws vs
  | .dK ws, o => ∃ vs, o = .dK vs ∧ Rkv K mg io M H ws vs
  | .dT ws, o => ∃ vs, o = .dT vs ∧ Rkv K mg io M H ws vs
  | .ins nm ws, o => ∃ C dx vs, o = .ins C dx vs ∧ mg nm = some (.ref C) ∧ Rkv K mg io M H ws vs
variable {c : Cell} {o : HO}
theorem Rc.pers (p : Pers io M H io' M' H') (h : Rc K mg io M H c o) : Rc K mg io' M' H' c o := by
  cases c with
  | lst ws => obtain ⟨vs, e, h⟩ := h; exact ⟨vs, e, h.pers p⟩
  | dK ws => obtain ⟨vs, e, h⟩ := h; exact ⟨vs, e, h.pers p⟩
  | dT ws => obtain ⟨vs, e, h⟩ := h; exact ⟨vs, e, h.pers p⟩
  | ins nm ws => obtain ⟨C, dx, vs, e, m, h⟩ := h; exact ⟨C, dx, vs, e, m, h.pers p⟩
theorem Rc.froze {a : Addr} (h : Rc K mg io M H c o) (ha : H a = some o) (hn : ¬ M a) : Rw K mg io M H c.toW (.ref a) := by
  cases c with
  | lst ws => obtain ⟨vs, rfl, h⟩ := h; exact .lst ha hn h.1 h.2
  | dK ws => obtain ⟨vs, rfl, h⟩ := h; exact .dK (.inl ha) hn h.1 h.2.2
  | dT ws => obtain ⟨vs, rfl, h⟩ := h; exact .dT (.inl ha) hn h.1 h.2.2
  | ins nm ws => obtain ⟨C, dx, vs, rfl, m, h⟩ := h; exact .obj m ha hn h.1 h.2.2
theorem Rc.nt (h : Rc K mg io M H c o) : Nt o := by
  cases c with
  | lst ws => obtain ⟨vs, rfl, h⟩ := h; intro _ z; cases z
  | dK ws => obtain ⟨vs, rfl, h⟩ := h; intro _ z; cases z
  | dT ws => obtain ⟨vs, rfl, h⟩ := h; intro _ z; cases z
  | ins nm ws => obtain ⟨C, dx, vs, rfl, m, h⟩ := h; intro _ z; cases z
def ExR (K : PySem.W.Frag) (mg : Str → Option Value) (io : List Addr) (M : Addr → Prop) (H : Hp) (x : Ex) (cls : Value) (d : Option Addr) : Prop :=
  ∃ C, mg x.nm = some (.ref C) ∧ cls = .ref C ∧ ((x.fs = [] ∧ d = none) ∨ ∃ dd vs, d = some dd ∧ H dd = some (.xd vs) ∧ ¬ M dd ∧ Rkv K mg io M H x.fs vs)
theorem ExR.pers {x : Ex} {cls : Value} {d : Option Addr} (p : Pers io M H io' M' H') (h : ExR K mg io M H x cls d) : ExR K mg io' M' H' x cls d := by
  obtain ⟨C, h1, h2, h3⟩ := h
  refine ⟨C, h1, h2, h3.imp id ?_⟩
  rintro ⟨dd, vs, e1, e2, e3, e4⟩
  exact ⟨dd, vs, e1, p.keep _ _ e2 e3, p.notin e2 e3, e4.pers p⟩
def Mu (io : List Addr) (Fr : Addr → Prop) : Addr → Prop := fun a => a ∈ io ∨ Fr a
structure GSim (K : PySem.W.Frag) (mg : Str → Option Value) (io : List Addr) (Fr : Addr → Prop) (G : List Cell) (H : Hp) : Prop where
  len : io.length = G.length
  cell : ∀ (n : Nat) (a : Addr) (c : Cell), io[n]? = some a → G[n]? = some c → ∃ o, H a = some o ∧ Rc K mg io (Mu io Fr) H c o
  nd : io.Nodup
  dj : ∀ a ∈ io, ¬ Fr a
  fr : ∀ a, Fr a → ∃ o, H a = some o ∧ Nt o
def FrO (Fr : Addr → Prop) (r : List SV) (σ : L2.St) : Addr → Prop := fun a => Fr a ∨ ∃ (i : Nat) (c : Cell), r[i]? = some (.own c) ∧ σ[i]? = some (some (V.ref a))
structure Sim (K : PySem.W.Frag) (mg : Str → Option Value) (ea : EA) (io : List Addr) (Fr : Addr → Prop) (s : S) (σ : L2.St) (H : Hp) : Prop where
  len : s.r.length = σ.length
  g : GSim K mg io (FrO Fr s.r σ) s.G H
  val : ∀ (i : Nat) (w : W), s.r[i]? = some (.val w) → ∃ v, σ[i]? = some (some v) ∧ Rw K mg io (Mu io (FrO Fr s.r σ)) H w v
  own : ∀ (i : Nat) (c : Cell), s.r[i]? = some (.own c) → ∃ a o, σ[i]? = some (some (V.ref a)) ∧ H a = some o ∧ Rc K mg io (Mu io (FrO Fr s.r σ)) H c o ∧ ¬ Fr a
  dist : ∀ (i j : Nat) (c d : Cell) (a : Addr), s.r[i]? = some (.own c) → s.r[j]? = some (.own d) → σ[i]? = some (some (V.ref a)) → σ[j]? = some (some (V.ref a)) → i = j
  exc : ∀ (i : Nat) (x : Ex), s.r[i]? = some (.exc x) → σ[i]? = some (some (V.ref ea.a)) ∧ ExR K mg io (Mu io (FrO Fr s.r σ)) H x ea.cls ea.d
structure Stp (io : List Addr) (M : Addr → Prop) (Fr : Addr → Prop) (H : Hp) (io' : List Addr) (M' : Addr → Prop) (H' : Hp) : Prop where
  p : Pers io M H io' M' H'
  fr : ∀ a, Fr a → H' a = H a
  trk : ∀ a o, H a = some o → ∃ o', H' a = some o'
theorem Stp.refl {Fr : Addr → Prop} : Stp io M Fr H io M H := ⟨.refl, fun _ _ => rfl, fun _ o h => ⟨o, h⟩⟩
theorem Pers.trans {io2 : List Addr} {M2 : Addr → Prop} {H2 : Hp} (a : Pers io M H io' M' H') (b : Pers io' M' H' io2 M2 H2) (t : ∀ x o, H x = some o → ∃ o', H' x = some o') : Pers io M H io2 M2 H2 where
  keep := fun x o h hM => b.keep x o (a.keep x o h hM) (a.notin h hM)
  new := fun x h => by
    rcases b.new x h with q | q
    · exact a.new x q
    · refine .inr ?_
      cases e : H x with
      | none => rfl
      | some o =>
        obtain ⟨o', e'⟩ := t x o e
        rw [q] at e'; cases e'
  ext := fun n x h => b.ext n x (a.ext n x h)
theorem Stp.trans {Fr : Addr → Prop} {io2 : List Addr} {M2 : Addr → Prop} {H2 : Hp} (a : Stp io M Fr H io' M' H') (b : Stp io' M' Fr H' io2 M2 H2) : Stp io M Fr H io2 M2 H2 where
  p := a.p.trans b.p a.trk
  fr := fun x h => (b.fr x h).trans (a.fr x h)
  trk := fun x o h => let ⟨o', h'⟩ := a.trk x o h; b.trk x o' h'
end
end Z
set_option Elab.async false
set_option linter.all false
set_option maxRecDepth 100000
namespace Z
open PySem PySem.Spec PyProof.Rows L2
abbrev Mo (α : Type) := S → Option (Except Ex α × S)
inductive FV where
  | val (w : W)
  | own (c : Cell)
inductive Fl where
  | nx
  | bk
  | ct
  | rt (x : FV)
def ret {α : Type} (a : α) : Mo α := fun s => some (.ok a, s)
def stk {α : Type} : Mo α := fun _ => none
def raiseM {α : Type} (x : Ex) : Mo α := fun s => some (.error x, s)
def bnd {α β : Type} (m : Mo α) (f : α → Mo β) : Mo β := fun s => match m s with
  | none => none
  | some (.error x, s') => some (.error x, s')
  | some (.ok a, s') => f a s'
theorem bnd_some {α β : Type} {m : Mo α} {f : α → Mo β} {s : S} {r : Except Ex β} {s' : S} (h : bnd m f s = some (r, s')) :
    (∃ x, m s = some (.error x, s') ∧ r = .error x) ∨ ∃ a s1, m s = some (.ok a, s1) ∧ f a s1 = some (r, s') := by
  unfold bnd at h
  cases e : m s with
  | none => rw [e] at h; cases h
  | some p =>
    obtain ⟨q, s1⟩ := p
    rw [e] at h
    cases q with
    | error x =>
      have h' : some ((Except.error x : Except Ex β), s1) = some (r, s') := h
      cases h'
      exact .inl ⟨x, rfl, rfl⟩
    | ok a => exact .inr ⟨a, s1, rfl, h⟩
theorem bnd_at {α β : Type} {m : Mo α} {f : α → Mo β} {s s1 : S} {a : α} (h : m s = some (.ok a, s1)) : bnd m f s = f a s1 := by
  unfold bnd; rw [h]
section
variable (K : PySem.W.Frag) (mg : Str → Option Value)
def pls (Fr : Addr → Prop) (a : Addr) : Addr → Prop := fun b => Fr b ∨ b = a
def Ms (io : List Addr) (Fr : Addr → Prop) (s : S) (σ : L2.St) : Addr → Prop := Mu io (FrO Fr s.r σ)
def PostE (ea : EA) (io : List Addr) (Fr : Addr → Prop) (s : S) (σ : L2.St) (H : Hp) (s' : S) (io' : List Addr) (H' : Hp) : RV → V → Prop
  | .val w, v => Sim K mg ea io' Fr s' σ H' ∧ Stp io (Ms io Fr s σ) Fr H io' (Ms io' Fr s' σ) H' ∧ Rw K mg io' (Ms io' Fr s' σ) H' w v
  | .hnd i, v => Sim K mg ea io' Fr s' σ H' ∧ Stp io (Ms io Fr s σ) Fr H io' (Ms io' Fr s' σ) H' ∧ σ[i]? = some (some v)
  | .own c, v => ∃ a o, v = .ref a ∧ H' a = some o ∧ ¬ FrO Fr s'.r σ a ∧ Sim K mg ea io' (pls Fr a) s' σ H' ∧ Stp io (Ms io Fr s σ) Fr H io' (Ms io' (pls Fr a) s' σ) H' ∧ Rc K mg io' (Ms io' (pls Fr a) s' σ) H' c o
def PostX (ea : EA) (io : List Addr) (Fr : Addr → Prop) (s : S) (σ : L2.St) (H : Hp) (s' : S) (σ' : L2.St) (io' : List Addr) (H' : Hp) (x : Ex) (cls : Value) (d : Option Addr) : Prop :=
  Sim K mg ea io' Fr s' σ' H' ∧ Stp io (Ms io Fr s σ) Fr H io' (Ms io' Fr s' σ') H' ∧ ExR K mg io' (Ms io' Fr s' σ') H' x cls d
def PostS (ea : EA) (io : List Addr) (Fr : Addr → Prop) (s : S) (σ : L2.St) (H : Hp) (s' : S) (σ' : L2.St) (io' : List Addr) (H' : Hp) : Prop :=
  Sim K mg ea io' Fr s' σ' H' ∧ Stp io (Ms io Fr s σ) Fr H io' (Ms io' Fr s' σ') H'
def PostF (io : List Addr) (M Fr : Addr → Prop) (H : Hp) (G' : List Cell) (io' : List Addr) (H' : Hp) : FV → V → Prop
  | .val w, v => GSim K mg io' Fr G' H' ∧ Stp io M Fr H io' (Mu io' Fr) H' ∧ Rw K mg io' (Mu io' Fr) H' w v
  | .own c, v => ∃ a o, v = .ref a ∧ H' a = some o ∧ ¬ Fr a ∧ GSim K mg io' (pls Fr a) G' H' ∧ Stp io M Fr H io' (Mu io' (pls Fr a)) H' ∧ Rc K mg io' (Mu io' (pls Fr a)) H' c o
def RvR (io : List Addr) (M : Addr → Prop) (σ : L2.St) (H : Hp) : RV → V → Prop
  | .val w, v => Rw K mg io M H w v
  | .hnd i, v => σ[i]? = some (some v)
  | .own _, _ => False
def Rn (io : List Addr) (M : Addr → Prop) (H : Hp) (w : W) (v : V) : Prop := Rw K mg io M H w v ∨ ∃ c o a, w = Cell.toW c ∧ v = .ref a ∧ H a = some o ∧ Rc K mg io M H c o
variable (ea : EA) (Wx : WX)
def RefE (t : TE) (m : Mo RV) : Prop := ∀ (σ : L2.St) (H : Hp) (io : List Addr) (Fr : Addr → Prop) (s : S), Sim K mg ea io Fr s σ H → ∀ r s', m s = some (r, s') → ∀ Q : VK,
  (∀ x, r = .ok x → ∀ v H' io', PostE K mg ea io Fr s σ H s' io' H' x v → Q v H') → (∀ x, r = .error x → ∀ cls d H' io', PostX K mg ea io Fr s σ H s' σ io' H' x cls d → Wx cls d σ H') → t σ H Q
def RefT (t : TT) (m : Mo Bool) : Prop := ∀ (σ : L2.St) (H : Hp) (io : List Addr) (Fr : Addr → Prop) (s : S), Sim K mg ea io Fr s σ H → ∀ r s', m s = some (r, s') → ∀ Q : Bool → Hp → Prop,
  (∀ b, r = .ok b → ∀ H' io', PostS K mg ea io Fr s σ H s' σ io' H' → Q b H') → (∀ x, r = .error x → ∀ cls d H' io', PostX K mg ea io Fr s σ H s' σ io' H' x cls d → Wx cls d σ H') → t σ H Q
def RefA (t : TA) (m : Mo (List RV)) : Prop := ∀ (σ : L2.St) (H : Hp) (io : List Addr) (Fr : Addr → Prop) (s : S), Sim K mg ea io Fr s σ H → ∀ r s', m s = some (r, s') → ∀ Q : List V → Hp → Prop,
  (∀ xs, r = .ok xs → ∀ vs H' io', PostS K mg ea io Fr s σ H s' σ io' H' → Paired (RvR K mg io' (Ms io' Fr s' σ) σ H') xs vs → Q vs H') → (∀ x, r = .error x → ∀ cls d H' io', PostX K mg ea io Fr s σ H s' σ io' H' x cls d → Wx cls d σ H') → t σ H Q
def RefS (t : TS) (m : Mo Fl) : Prop := ∀ (σ : L2.St) (H : Hp) (io : List Addr) (Fr : Addr → Prop) (s : S), Sim K mg ea io Fr s σ H → ∀ r s', m s = some (r, s') → ∀ D : Ends,
  (r = .ok .nx → ∀ σ' H' io', PostS K mg ea io Fr s σ H s' σ' io' H' → D.nx σ' H') → (r = .ok .bk → ∀ σ' H' io', PostS K mg ea io Fr s σ H s' σ' io' H' → D.bk σ' H') →
  (r = .ok .ct → ∀ σ' H' io', PostS K mg ea io Fr s σ H s' σ' io' H' → D.ct σ' H') → (∀ f, r = .ok (.rt f) → ∀ v H' io', PostF K mg io (Ms io Fr s σ) Fr H s'.G io' H' f v → D.rt v H') →
  (∀ x, r = .error x → ∀ cls d σ' H' io', PostX K mg ea io Fr s σ H s' σ' io' H' x cls d → Wx cls d σ' H') → t D σ H
end
structure Pee (X : Cx) (ea : EA) (Wx : WX) (e : Expr) (m : Mo RV) : Prop where
  ex : ∃ t, PE X e t ∧ RefE X.K X.mg ea Wx t m
structure Pet (X : Cx) (ea : EA) (Wx : WX) (e : Expr) (m : Mo Bool) : Prop where
  ex : ∃ t, PT X e t ∧ RefT X.K X.mg ea Wx t m
structure Pew (X : Cx) (ea : EA) (Wx : WX) (e : Expr) (m : Mo Bool) : Prop where
  ex : ∃ t, PW X e t ∧ RefT X.K X.mg ea Wx t m
structure Pea (X : Cx) (ea : EA) (Wx : WX) (es : List Expr) (m : Mo (List RV)) : Prop where
  ex : ∃ t, PA X es t ∧ RefA X.K X.mg ea Wx t m
structure Pes (X : Cx) (ea : EA) (Wx : WX) (st : Stmt) (m : Mo Fl) : Prop where
  ex : ∃ t, PS X st t ∧ RefS X.K X.mg ea Wx t m
structure Pess (X : Cx) (ea : EA) (Wx : WX) (st : List Stmt) (m : Mo Fl) : Prop where
  ex : ∃ t, PSs X st t ∧ RefS X.K X.mg ea Wx t m
section
variable {K : PySem.W.Frag} {mg : Str → Option Value} {ea : EA} {io io' : List Addr} {Fr Fr' : Addr → Prop} {s s' : S} {σ σ' : L2.St} {H H' : Hp} {w : W} {v : V} {c : Cell} {o : HO} {a : Addr}
theorem FrO.mono {r : List SV} (h : ∀ b, Fr' b → Fr b) : ∀ b, FrO Fr' r σ b → FrO Fr r σ b := fun b z => z.imp (h b) id
theorem Ms.mono (h : ∀ b, Fr' b → Fr b) : ∀ b, Ms io Fr' s σ b → Ms io Fr s σ b := fun b z => z.imp id (FrO.mono h b)
theorem pls.sub : ∀ b, Fr b → pls Fr a b := fun _ z => .inl z
theorem Ms.pls_sub : ∀ b, Ms io Fr s σ b → Ms io (pls Fr a) s σ b := Ms.mono pls.sub
theorem GSim.less (g : GSim K mg io Fr s.G H) (h : ∀ b, Fr' b → Fr b) : GSim K mg io Fr' s.G H where
  len := g.len
  cell := fun n a c h1 h2 => let ⟨o, e, q⟩ := g.cell n a c h1 h2; ⟨o, e, q.pers (.less fun b z => z.imp id (h b))⟩
  nd := g.nd
  dj := fun a ha z => g.dj a ha (h a z)
  fr := fun a z => g.fr a (h a z)
theorem Sim.less (x : Sim K mg ea io Fr s σ H) (h : ∀ b, Fr' b → Fr b) : Sim K mg ea io Fr' s σ H where
  len := x.len
  g := x.g.less (FrO.mono h)
  val := fun i w e => let ⟨v, q1, q2⟩ := x.val i w e; ⟨v, q1, q2.pers (.less (Ms.mono h))⟩
  own := fun i c e => let ⟨a, o, q1, q2, q3, q4⟩ := x.own i c e; ⟨a, o, q1, q2, q3.pers (.less (Ms.mono h)), fun z => q4 (h a z)⟩
  dist := x.dist
  exc := fun i e q => let ⟨h1, h2⟩ := x.exc i e q; ⟨h1, h2.pers (.less (Ms.mono h))⟩
theorem Stp.less {M M' M2 : Addr → Prop} (x : Stp io M Fr H io' M' H') (h : ∀ b, M2 b → M' b) : Stp io M Fr H io' M2 H' := ⟨⟨x.p.keep, fun a z => x.p.new a (h a z), x.p.ext⟩, x.fr, x.trk⟩
theorem Rn.of (h : Rw K mg io (Ms io Fr s σ) H w v) : Rn K mg io (Ms io Fr s σ) H w v := .inl h
@[simp] def settle : RV → RV
  | .own c => .val c.toW
  | x => x
theorem PostE.settled {x : RV} (h : PostE K mg ea io Fr s σ H s' io' H' x v) : Sim K mg ea io' Fr s' σ H' ∧ Stp io (Ms io Fr s σ) Fr H io' (Ms io' Fr s' σ) H' ∧ RvR K mg io' (Ms io' Fr s' σ) σ H' (settle x) v := by
  cases x with
  | val w => exact h
  | hnd i => exact h
  | own c =>
    obtain ⟨a, o, rfl, ha, hn, S, T, R⟩ := h
    refine ⟨S.less pls.sub, T.less Ms.pls_sub, ?_⟩
    have ni : a ∉ io' := fun z => S.g.dj a z (.inl (.inr rfl))
    exact (R.pers (.less Ms.pls_sub)).froze ha fun z => z.elim ni hn
def derefW (s : S) : W → Option W
  | .ref n => (s.G[n]?).map Cell.toW
  | w => some w
def look : RV → Mo W
  | .val w => fun s => (derefW s w).map fun z => (.ok z, s)
  | .own c => ret c.toW
  | .hnd i => fun s => match s.r[i]? with
    | some (.own c) => some (.ok c.toW, s)
    | some (.val w) => (derefW s w).map fun z => (.ok z, s)
    | _ => none
theorem deref_ok (S : Sim K mg ea io Fr s σ H) (h : Rw K mg io (Ms io Fr s σ) H w v) {z : W} (e : derefW s w = some z) : Rn K mg io (Ms io Fr s σ) H z v := by
  cases w with
  | ref n =>
    simp only [derefW, Option.map_eq_some_iff] at e
    obtain ⟨c, e1, rfl⟩ := e
    cases h with
    | ref h =>
      obtain ⟨o, ho, hc⟩ := S.g.cell n _ c h e1
      exact .inr ⟨c, o, _, rfl, rfl, ho, hc⟩
  | _ => simp only [derefW, Option.some.injEq] at e; subst e; exact .inl h
theorem look_ok (S : Sim K mg ea io Fr s σ H) {x : RV} (h : RvR K mg io (Ms io Fr s σ) σ H x v) {r : Except Ex W} (e : look x s = some (r, s')) : s' = s ∧ ∃ z, r = .ok z ∧ Rn K mg io (Ms io Fr s σ) H z v := by
  cases x with
  | own c => exact h.elim
  | val w =>
    simp only [look, Option.map_eq_some_iff] at e
    obtain ⟨z, e1, e2⟩ := e
    cases e2
    exact ⟨rfl, z, rfl, deref_ok S h e1⟩
  | hnd i =>
    have h' : σ[i]? = some (some v) := h
    simp only [look] at e
    split at e
    · rename_i c q
      cases e
      obtain ⟨a, o, h1, h2, h3, h4⟩ := S.own i c q
      rw [h'] at h1
      cases h1
      exact ⟨rfl, _, rfl, .inr ⟨c, o, a, rfl, rfl, h2, h3⟩⟩
    · rename_i w q
      simp only [Option.map_eq_some_iff] at e
      obtain ⟨z, e1, e2⟩ := e
      cases e2
      obtain ⟨u, h1, h2⟩ := S.val i w q
      rw [h'] at h1
      cases h1
      exact ⟨rfl, z, rfl, deref_ok S h2 e1⟩
    · cases e
def freeze : RV → Mo W
  | .val w => ret w
  | .own c => ret c.toW
  | .hnd i => fun s => match s.r[i]? with
    | some (.own c) => some (.ok c.toW, { s with r := s.r.set i (.val c.toW) })
    | some (.val w) => some (.ok w, s)
    | _ => none
theorem get_lt {α : Type} {l : List α} {i : Nat} {x : α} (h : l[i]? = some x) : i < l.length := by
  rcases Nat.lt_or_ge i l.length with q | q
  · exact q
  · rw [List.getElem?_eq_none_iff.mpr q] at h; cases h
theorem FrO.froze {r : List SV} {i : Nat} {w : W} : ∀ b, FrO Fr (r.set i (.val w)) σ b → FrO Fr r σ b := fun b z => z.imp id fun ⟨j, d, h1, h2⟩ => by
  by_cases e : i = j
  · subst e
    have := get_lt h1
    rw [List.getElem?_set_self (by simpa using this)] at h1
    cases h1
  · rw [List.getElem?_set_ne e] at h1
    exact ⟨j, d, h1, h2⟩
theorem Sim.freeze {i : Nat} (x : Sim K mg ea io Fr s σ H) (e : s.r[i]? = some (.own c)) : Sim K mg ea io Fr { s with r := s.r.set i (.val c.toW) } σ H ∧ ∀ v, σ[i]? = some (some v) → Rw K mg io (Ms io Fr { s with r := s.r.set i (.val c.toW) } σ) H c.toW v := by
  have hi := get_lt e
  obtain ⟨a, o, h1, h2, h3, h4⟩ := x.own i c e
  have le : ∀ b, Ms io Fr { s with r := s.r.set i (.val c.toW) } σ b → Ms io Fr s σ b := fun b z => z.imp id (FrO.froze b)
  have nm : ¬ Ms io Fr { s with r := s.r.set i (.val c.toW) } σ a := fun z => by
    rcases z with z | z | ⟨j, d, q1, q2⟩
    · exact x.g.dj a z (.inr ⟨i, c, e, h1⟩)
    · exact h4 z
    · by_cases ij : i = j
      · subst ij
        rw [List.getElem?_set_self hi] at q1
        cases q1
      · rw [List.getElem?_set_ne ij] at q1
        exact ij (x.dist i j c d a e q1 h1 q2)
  have fz : Rw K mg io (Ms io Fr { s with r := s.r.set i (.val c.toW) } σ) H c.toW (.ref a) := (h3.pers (.less le)).froze h2 nm
  refine ⟨⟨by simpa using x.len, x.g.less (s := s) (FrO.froze), fun j w q => ?_, fun j d q => ?_, fun j k d d' b q1 q2 => ?_, fun j y q => ?_⟩, fun v hv => ?_⟩
  · by_cases ij : i = j
    · subst ij
      rw [List.getElem?_set_self hi] at q
      cases q
      exact ⟨_, h1, fz⟩
    · rw [List.getElem?_set_ne ij] at q
      obtain ⟨v, q1, q2⟩ := x.val j w q
      exact ⟨v, q1, q2.pers (.less le)⟩
  · by_cases ij : i = j
    · subst ij
      rw [List.getElem?_set_self hi] at q
      cases q
    · rw [List.getElem?_set_ne ij] at q
      obtain ⟨b, p, q1, q2, q3, q4⟩ := x.own j d q
      exact ⟨b, p, q1, q2, q3.pers (.less le), q4⟩
  · by_cases ij : i = j
    · subst ij
      rw [List.getElem?_set_self hi] at q1
      cases q1
    · by_cases ik : i = k
      · subst ik
        rw [List.getElem?_set_self hi] at q2
        cases q2
      · rw [List.getElem?_set_ne ij] at q1
        rw [List.getElem?_set_ne ik] at q2
        exact x.dist j k d d' b q1 q2
  · by_cases ij : i = j
    · subst ij
      rw [List.getElem?_set_self hi] at q
      cases q
    · rw [List.getElem?_set_ne ij] at q
      obtain ⟨h1, h2⟩ := x.exc j y q
      exact ⟨h1, h2.pers (.less le)⟩
  · rw [h1] at hv
    cases hv
    exact fz
theorem freeze_ok (S : Sim K mg ea io Fr s σ H) {x : RV} (h : RvR K mg io (Ms io Fr s σ) σ H x v) {r : Except Ex W} (e : freeze x s = some (r, s')) : s'.G = s.G ∧ (∀ b, Ms io Fr s' σ b → Ms io Fr s σ b) ∧ Sim K mg ea io Fr s' σ H ∧ ∃ z, r = .ok z ∧ Rw K mg io (Ms io Fr s' σ) H z v := by
  cases x with
  | own c => exact h.elim
  | val w => cases e; exact ⟨rfl, fun _ z => z, S, w, rfl, h⟩
  | hnd i =>
    have h' : σ[i]? = some (some v) := h
    simp only [Z.freeze] at e
    split at e
    · rename_i c q
      cases e
      obtain ⟨S', f⟩ := S.freeze q
      exact ⟨rfl, fun b z => z.imp id (FrO.froze b), S', _, rfl, f v h'⟩
    · rename_i w q
      cases e
      obtain ⟨u, h1, h2⟩ := S.val i w q
      rw [h'] at h1
      cases h1
      exact ⟨rfl, fun _ z => z, S, w, rfl, h2⟩
    · cases e
theorem RvR.pers {x : RV} {M M' : Addr → Prop} (p : Pers io M H io' M' H') (h : RvR K mg io M σ H x v) : RvR K mg io' M' σ H' x v := by
  cases x with
  | own c => exact h
  | val w => exact Rw.pers p h
  | hnd i => exact h
end
end Z
set_option Elab.async false
set_option linter.all false
set_option maxRecDepth 100000
namespace Z
open PySem PySem.Spec PyProof.Rows L2
section
variable {K : PySem.W.Frag} {mg : Str → Option Value} {ea : EA} {io io' : List Addr} {Fr Fr' : Addr → Prop} {s s' s2 : S} {σ σ' : L2.St} {H H' : Hp} {w : W} {v : V} {c : Cell} {o : HO} {a p : Addr}
theorem Sim.trkN (x : Sim K mg ea io Fr s σ H) (h : Ms io Fr s σ a) : ∃ o, H a = some o ∧ Nt o := by
  rcases h with h | h
  · obtain ⟨n, hn⟩ := List.mem_iff_getElem?.mp h
    have hl := get_lt hn
    rw [x.g.len] at hl
    obtain ⟨o, e, r⟩ := x.g.cell n a s.G[n] hn (by simp [hl])
    exact ⟨o, e, r.nt⟩
  · exact x.g.fr a h
theorem Sim.trk (x : Sim K mg ea io Fr s σ H) (h : Ms io Fr s σ a) : ∃ o, H a = some o := let ⟨o, e, _⟩ := x.trkN h; ⟨o, e⟩
theorem Sim.move (x : Sim K mg ea io Fr s σ H) (q : Pers io (Ms io Fr s σ) H io (Ms io Fr' s σ) H') (same : ∀ a, Ms io Fr s σ a → H' a = H a)
    (dj : ∀ a, Fr' a → a ∉ io) (dj2 : ∀ a (i : Nat) c, Fr' a → s.r[i]? = some (.own c) → σ[i]? = some (some (V.ref a)) → False) (tr : ∀ a, Fr' a → ∃ o, H' a = some o ∧ Nt o) : Sim K mg ea io Fr' s σ H' where
  len := x.len
  g := ⟨x.g.len, fun n a c h1 h2 => by
      obtain ⟨o, e, r⟩ := x.g.cell n a c h1 h2
      exact ⟨o, by rw [same a (.inl (List.mem_of_getElem? h1))]; exact e, r.pers q⟩,
    x.g.nd, fun a ha z => by
      rcases z with z | z
      · exact dj a z ha
      · exact x.g.dj a ha (.inr z), fun a z => by
      rcases z with z | ⟨i, c, h1, h2⟩
      · exact tr a z
      · obtain ⟨b, o, q1, q2, q3, _⟩ := x.own i c h1
        rw [h2] at q1; cases q1
        exact ⟨o, by rw [same a (.inr (.inr ⟨i, c, h1, h2⟩))]; exact q2, q3.nt⟩⟩
  val := fun i w e => let ⟨v, q1, q2⟩ := x.val i w e; ⟨v, q1, q2.pers q⟩
  own := fun i c e => by
    obtain ⟨a, o, q1, q2, q3, _⟩ := x.own i c e
    exact ⟨a, o, q1, by rw [same a (.inr (.inr ⟨i, c, e, q1⟩))]; exact q2, q3.pers q, fun z => dj2 a i c z e q1⟩
  dist := x.dist
  exc := fun i e k => let ⟨h1, h2⟩ := x.exc i e k; ⟨h1, h2.pers q⟩
theorem Sim.laid (x : Sim K mg ea io Fr s σ H) (hp : H p = none) : Sim K mg ea io Fr s σ (upd H p o) ∧ Stp io (Ms io Fr s σ) Fr H io (Ms io Fr s σ) (upd H p o) := by
  have ne : ∀ b u, H b = some u → upd H p o b = some u := fun b u e => by rw [upd_ne (ne_of_none e hp)]; exact e
  have same : ∀ b, Ms io Fr s σ b → upd H p o b = H b := fun b z => by
    obtain ⟨u, e⟩ := x.trk z
    rw [ne b u e, e]
  have q : Pers io (Ms io Fr s σ) H io (Ms io Fr s σ) (upd H p o) := ⟨fun b u e _ => ne b u e, fun b z => .inl z, fun _ _ e => e⟩
  refine ⟨x.move q same (fun b z h => x.g.dj b h (.inl z)) (fun b i c z h1 h2 => ?_) (fun b z => ?_), q, fun b z => same b (.inr (.inl z)), fun b u e => ⟨u, ne b u e⟩⟩
  · obtain ⟨a', o', q1, _, _, q4⟩ := x.own i c h1
    rw [h2] at q1; cases q1
    exact q4 z
  · obtain ⟨u, e, n⟩ := x.trkN (a := b) (.inr (.inl z))
    exact ⟨u, ne b u e, n⟩
theorem Sim.alloc (x : Sim K mg ea io Fr s σ H) (hp : H p = none) (hN : Nt o := by intro _ z; cases z) : Sim K mg ea io (pls Fr p) s σ (upd H p o) ∧ Stp io (Ms io Fr s σ) Fr H io (Ms io (pls Fr p) s σ) (upd H p o) ∧ ¬ FrO Fr s.r σ p := by
  have ne : ∀ b u, H b = some u → upd H p o b = some u := fun b u e => by rw [upd_ne (ne_of_none e hp)]; exact e
  have same : ∀ b, Ms io Fr s σ b → upd H p o b = H b := fun b z => by
    obtain ⟨u, e⟩ := x.trk z
    rw [ne b u e, e]
  have nM : ¬ Ms io Fr s σ p := fun z => by
    obtain ⟨u, e⟩ := x.trk z
    rw [hp] at e; cases e
  have q : Pers io (Ms io Fr s σ) H io (Ms io (pls Fr p) s σ) (upd H p o) := ⟨fun b u e _ => ne b u e, fun b z => by
    rcases z with z | (z | z) | z
    · exact .inl (.inl z)
    · exact .inl (.inr (.inl z))
    · exact .inr (by rw [z]; exact hp)
    · exact .inl (.inr (.inr z)), fun _ _ e => e⟩
  refine ⟨x.move q same (fun b z h => ?_) (fun b i c z h1 h2 => ?_) (fun b z => ?_), ⟨q, fun b z => same b (.inr (.inl z)), fun b u e => ⟨u, ne b u e⟩⟩, fun z => nM (.inr z)⟩
  · rcases z with z | z
    · exact x.g.dj b h (.inl z)
    · exact nM (.inl (z ▸ h))
  · obtain ⟨a', o', q1, _, _, q4⟩ := x.own i c h1
    rw [h2] at q1; cases q1
    rcases z with z | z
    · exact q4 z
    · exact nM (.inr (.inr ⟨i, c, h1, z ▸ h2⟩))
  · rcases z with z | z
    · obtain ⟨u, e, n⟩ := x.trkN (a := b) (.inr (.inl z))
      exact ⟨u, ne b u e, n⟩
    · exact ⟨o, by rw [z, upd_same], hN⟩
theorem Stp.frless {M M' : Addr → Prop} (x : Stp io M Fr H io' M' H') (h : ∀ b, Fr' b → Fr b) : Stp io M Fr' H io' M' H' := ⟨x.p, fun a z => x.fr a (h a z), x.trk⟩
theorem Sim.call {G' : List Cell} (x : Sim K mg ea io Fr s σ H) (g : GSim K mg io' (FrO Fr' s.r σ) G' H') (T : Stp io (Ms io Fr s σ) (FrO Fr s.r σ) H io' (Mu io' (FrO Fr' s.r σ)) H')
    (n : ∀ a (i : Nat) c, s.r[i]? = some (.own c) → σ[i]? = some (some (V.ref a)) → ¬ Fr' a) : Sim K mg ea io' Fr' { s with G := G' } σ H' where
  len := x.len
  g := g
  val := fun i w e => let ⟨v, q1, q2⟩ := x.val i w e; ⟨v, q1, q2.pers T.p⟩
  own := fun i c e => by
    obtain ⟨a, o, q1, q2, q3, _⟩ := x.own i c e
    exact ⟨a, o, q1, by rw [T.fr a (.inr ⟨i, c, e, q1⟩)]; exact q2, q3.pers T.p, n a i c e q1⟩
  dist := x.dist
  exc := fun i e k => let ⟨h1, h2⟩ := x.exc i e k; ⟨h1, h2.pers T.p⟩
inductive OR where
  | imm (w : W)
  | newl (ws : List W)
  | newt (ws : List W)
@[simp] def OR.toRV : OR → RV
  | .imm w => .val w
  | .newl ws => .own (.lst ws)
  | .newt ws => .val (.tup ws)
def OQ (K : PySem.W.Frag) (mg : Str → Option Value) (io : List Addr) (M : Addr → Prop) (H : Hp) (z : OR) (Q : VK) : Prop := match z with
  | .imm w => ∀ v, Rw K mg io M H w v → Q v H
  | .newl ws => ∀ p vs, H p = none → Rws K mg io M H ws vs → Q (.ref p) (upd H p (.lst vs))
  | .newt ws => ∀ p vs, H p = none → Rws K mg io M H ws vs → Q (.ref p) (upd H p (.tup vs))
theorem OQ.post {z : OR} (x : Sim K mg ea io' Fr s2 σ H') (T : Stp io (Ms io Fr s σ) Fr H io' (Ms io' Fr s2 σ) H') {Q : VK}
    (hok : ∀ v H2 io2, PostE K mg ea io Fr s σ H s2 io2 H2 z.toRV v → Q v H2) : OQ K mg io' (Ms io' Fr s2 σ) H' z Q := by
  cases z with
  | imm w => exact fun v r => hok v _ _ ⟨x, T, r⟩
  | newl ws =>
    intro p vs hp r
    obtain ⟨S, T2, nf⟩ := x.alloc (o := .lst vs) hp
    exact hok _ _ _ ⟨p, .lst vs, rfl, upd_same, nf, S, T.trans T2, vs, rfl, r.pers T2.p⟩
  | newt ws =>
    intro p vs hp r
    obtain ⟨S, T2⟩ := x.laid (o := .tup vs) hp
    have r' := r.pers T2.p
    refine hok _ _ _ ⟨S, T.trans T2, .tup (.inl ⟨upd_same, fun z => ?_⟩) r'.1 r'.2⟩
    obtain ⟨u, e⟩ := x.trk z
    rw [hp] at e; cases e
def OpM (X : Cx) (g : Value → Value → Sem Value) (f : W → W → Option OR) : Prop :=
  ∃ r : R2, OpR X g r ∧ ∀ io M H x y vx vy z Q, Rn X.K X.mg io M H x vx → Rn X.K X.mg io M H y vy → f x y = some z → OQ X.K X.mg io M H z Q → r vx vy H Q
def UnM (X : Cx) (g : Value → Sem Value) (f : W → Option OR) : Prop :=
  ∃ r : V → Hp → VK → Prop, UnR X g r ∧ ∀ io M H x vx z Q, Rn X.K X.mg io M H x vx → f x = some z → OQ X.K X.mg io M H z Q → r vx H Q
def orf {α β γ : Type} (f g : α → β → Option γ) : α → β → Option γ := fun x y => match f x y with
  | some z => some z
  | none => g x y
theorem OpM.or {X : Cx} {g : Value → Value → Sem Value} {f f' : W → W → Option OR} (h : OpM X g f) (h' : OpM X g f') : OpM X g (orf f f') := by
  obtain ⟨r, a, b⟩ := h
  obtain ⟨r', a', b'⟩ := h'
  refine ⟨_, a.or a', fun io M H x y vx vy z Q rx ry e q => ?_⟩
  unfold orf at e
  cases k : f x y with
  | some z' =>
    rw [k] at e
    cases e
    exact .inl (b io M H x y vx vy z Q rx ry k q)
  | none =>
    rw [k] at e
    exact .inr (b' io M H x y vx vy z Q rx ry e q)
def liftO (z : Option OR) : Mo RV := match z with
  | some z => ret z.toRV
  | none => stk
def opM (f : W → W → Option OR) (x y : RV) : Mo RV := bnd (look x) fun wx => bnd (look y) fun wy => liftO (f wx wy)
def mBin (f : W → W → Option OR) (ma mb : Mo RV) : Mo RV := bnd ma fun x => bnd mb fun y => opM f (settle x) (settle y)
def mUn (f : W → Option OR) (ma : Mo RV) : Mo RV := bnd ma fun x => bnd (look (settle x)) fun wx => liftO (f wx)
theorem liftO_some {z : Option OR} {r : Except Ex RV} (h : liftO z s = some (r, s')) : s' = s ∧ ∃ u, z = some u ∧ r = .ok u.toRV := by
  cases z with
  | none => cases h
  | some u => cases h; exact ⟨rfl, u, rfl, rfl⟩
section
variable {Wx : WX} {ta tb tc : TE} {ma mb mc : Mo RV}
theorem bin2 (ha : RefE K mg ea Wx ta ma) (hb : RefE K mg ea Wx tb mb) (S0 : Sim K mg ea io Fr s σ H) {α : Type} {f : RV → RV → Mo α} {r : Except Ex α}
    (e : bnd ma (fun x => bnd mb fun y => f (settle x) (settle y)) s = some (r, s'))
    (hex : ∀ x, r = .error x → ∀ cls d H' io', PostX K mg ea io Fr s σ H s' σ io' H' x cls d → Wx cls d σ H')
    {R : V → V → Hp → Prop} (hR : ∀ x y s2 vx vy H2 io2, f x y s2 = some (r, s') → Sim K mg ea io2 Fr s2 σ H2 → Stp io (Ms io Fr s σ) Fr H io2 (Ms io2 Fr s2 σ) H2 →
      RvR K mg io2 (Ms io2 Fr s2 σ) σ H2 x vx → RvR K mg io2 (Ms io2 Fr s2 σ) σ H2 y vy → R vx vy H2) : ta σ H fun x H1 => tb σ H1 fun y H2 => R x y H2 := by
  rcases bnd_some e with ⟨x, e1, rfl⟩ | ⟨x, s1, e1, e2⟩
  · exact ha σ H io Fr s S0 _ _ e1 _ (fun _ q => by cases q) fun x' q cls d H' io' px => by
      cases q
      exact hex _ rfl cls d H' io' px
  · refine ha σ H io Fr s S0 _ _ e1 _ (fun x' q vx H1 io1 px => ?_) (fun _ q => by cases q)
    cases q
    obtain ⟨S1, T1, R1⟩ := px.settled
    rcases bnd_some e2 with ⟨y, e3, rfl⟩ | ⟨y, s2, e3, e4⟩
    · exact hb σ H1 io1 Fr s1 S1 _ _ e3 _ (fun _ q => by cases q) fun x' q cls d H' io' py => by
        cases q
        exact hex _ rfl cls d H' io' ⟨py.1, T1.trans py.2.1, py.2.2⟩
    · refine hb σ H1 io1 Fr s1 S1 _ _ e3 _ (fun y' q vy H2 io2 py => ?_) (fun _ q => by cases q)
      cases q
      obtain ⟨S2, T2, R2⟩ := py.settled
      exact hR _ _ s2 vx vy H2 io2 e4 S2 (T1.trans T2) (R1.pers T2.p) R2
theorem ref_op {X : Cx} {g : Value → Value → Sem Value} {f : W → W → Option OR} {r : R2} (hr : ∀ io M H x y vx vy z Q, Rn K mg io M H x vx → Rn K mg io M H y vy → f x y = some z → OQ K mg io M H z Q → r vx vy H Q)
    (ha : RefE K mg ea Wx ta ma) (hb : RefE K mg ea Wx tb mb) : RefE K mg ea Wx (tOp r ta tb) (mBin f ma mb) := by
  intro σ H io Fr s S0 r0 s' e Q hok hex
  refine bin2 ha hb S0 e hex fun x y s2 vx vy H2 io2 e4 S2 T2 rx ry => ?_
  rcases bnd_some e4 with ⟨z, e5, rfl⟩ | ⟨wx, s3, e5, e6⟩
  · obtain ⟨_, _, q, _⟩ := look_ok S2 rx e5
    cases q
  · obtain ⟨rfl, wx', q, nx⟩ := look_ok S2 rx e5
    cases q
    rcases bnd_some e6 with ⟨z, e7, rfl⟩ | ⟨wy, s4, e7, e8⟩
    · obtain ⟨_, _, q, _⟩ := look_ok S2 ry e7
      cases q
    · obtain ⟨rfl, wy', q, ny⟩ := look_ok S2 ry e7
      cases q
      obtain ⟨rfl, u, hu, rfl⟩ := liftO_some e8
      exact hr _ _ _ _ _ _ _ _ _ nx ny hu (OQ.post S2 T2 fun v H3 io3 px => hok _ rfl v H3 io3 px)
theorem ref_un {f : W → Option OR} {r : V → Hp → VK → Prop} (hr : ∀ io M H x vx z Q, Rn K mg io M H x vx → f x = some z → OQ K mg io M H z Q → r vx H Q)
    (ha : RefE K mg ea Wx ta ma) : RefE K mg ea Wx (tUn r ta) (mUn f ma) := by
  intro σ H io Fr s S0 r0 s' e Q hok hex
  rcases bnd_some e with ⟨x, e1, rfl⟩ | ⟨x, s1, e1, e2⟩
  · exact ha σ H io Fr s S0 _ _ e1 _ (fun _ q => by cases q) fun x' q cls d H' io' px => by
      cases q
      exact hex _ rfl cls d H' io' px
  · refine ha σ H io Fr s S0 _ _ e1 _ (fun x' q vx H1 io1 px => ?_) (fun _ q => by cases q)
    cases q
    obtain ⟨S1, T1, R1⟩ := px.settled
    rcases bnd_some e2 with ⟨z, e5, rfl⟩ | ⟨wx, s3, e5, e6⟩
    · obtain ⟨_, _, q, _⟩ := look_ok S1 R1 e5
      cases q
    · obtain ⟨rfl, wx', q, nx⟩ := look_ok S1 R1 e5
      cases q
      obtain ⟨rfl, u, hu, rfl⟩ := liftO_some e6
      exact hr _ _ _ _ _ _ _ nx hu (OQ.post S1 T1 fun v H3 io3 px => hok _ rfl v H3 io3 px)
end
def mName (i : Nat) : Mo RV := fun s => match s.r[i]? with
  | some (.val w) => some (.ok (.val w), s)
  | some (.own _) => some (.ok (.hnd i), s)
  | _ => none
def mC (w : W) : Mo RV := ret (.val w)
variable {Wx : WX}
theorem ref_name (i : Nat) : RefE K mg ea Wx (tVar i) (mName i) := by
  intro σ H io Fr s S0 r0 s' e Q hok hex
  unfold mName at e
  split at e
  · rename_i w q
    cases e
    obtain ⟨v, q1, q2⟩ := S0.val i w q
    exact ⟨v, q1, hok _ rfl v H io ⟨S0, .refl, q2⟩⟩
  · rename_i c q
    cases e
    obtain ⟨a, o, q1, _⟩ := S0.own i c q
    exact ⟨_, q1, hok _ rfl _ H io ⟨S0, .refl, q1⟩⟩
  · cases e
theorem ref_c {w : W} {v : V} (h : ∀ io M H, Rw K mg io M H w v) : RefE K mg ea Wx (tC v) (mC w) := by
  intro σ H io Fr s S0 r0 s' e Q hok hex
  cases e
  exact hok _ rfl v H io ⟨S0, .refl, h _ _ _⟩
def toB : RV → Mo Bool
  | .val (.bl b) => ret b
  | _ => stk
def mB (m : Mo RV) : Mo Bool := bnd m toB
theorem toB_some {x : RV} {r : Except Ex Bool} (h : toB x s = some (r, s')) : s' = s ∧ ∃ b, x = .val (.bl b) ∧ r = .ok b := by
  unfold toB at h
  split at h
  · rename_i b
    cases h; exact ⟨rfl, b, rfl, rfl⟩
  · cases h
theorem ref_test {t : TE} {m : Mo RV} (h : RefE K mg ea Wx t m) : RefT K mg ea Wx (tTest t) (mB m) := by
  intro σ H io Fr s S0 r0 s' e Q hok hex
  rcases bnd_some e with ⟨x, e1, rfl⟩ | ⟨x, s1, e1, e2⟩
  · exact h σ H io Fr s S0 _ _ e1 _ (fun _ q => by cases q) fun x' q cls d H' io' px => by
      cases q
      exact hex _ rfl cls d H' io' px
  · refine h σ H io Fr s S0 _ _ e1 _ (fun x' q vx H1 io1 px => ?_) (fun _ q => by cases q)
    cases q
    obtain ⟨rfl, b, rfl, rfl⟩ := toB_some e2
    obtain ⟨S1, T1, R1⟩ := px
    cases R1
    exact ⟨b, rfl, hok _ rfl H1 io1 ⟨S1, T1⟩⟩
def mAnd (a b : Mo Bool) : Mo Bool := bnd a fun x => if x = true then b else ret false
def mOr (a b : Mo Bool) : Mo Bool := bnd a fun x => if x = true then ret true else b
def mNot (a : Mo Bool) : Mo Bool := bnd a fun x => ret (!x)
variable {ta tb : TT} {ma mb : Mo Bool}
theorem tst2 {α : Type} (ha : RefT K mg ea Wx ta ma) (S0 : Sim K mg ea io Fr s σ H) {f : Bool → Mo α} {r : Except Ex α} (e : bnd ma f s = some (r, s'))
    (hex : ∀ x, r = .error x → ∀ cls d H' io', PostX K mg ea io Fr s σ H s' σ io' H' x cls d → Wx cls d σ H')
    {R : Bool → Hp → Prop} (hR : ∀ b s1 H1 io1, f b s1 = some (r, s') → PostS K mg ea io Fr s σ H s1 σ io1 H1 → R b H1) : ta σ H R := by
  rcases bnd_some e with ⟨x, e1, rfl⟩ | ⟨b, s1, e1, e2⟩
  · exact ha σ H io Fr s S0 _ _ e1 _ (fun _ q => by cases q) fun x' q cls d H' io' px => by
      cases q
      exact hex _ rfl cls d H' io' px
  · refine ha σ H io Fr s S0 _ _ e1 _ (fun x' q H1 io1 px => ?_) (fun _ q => by cases q)
    cases q
    exact hR b s1 H1 io1 e2 px
theorem ref_and (ha : RefT K mg ea Wx ta ma) (hb : RefT K mg ea Wx tb mb) : RefT K mg ea Wx (tAnd ta tb) (mAnd ma mb) := by
  intro σ H io Fr s S0 r0 s' e Q hok hex
  refine tst2 ha S0 e hex fun b s1 H1 io1 e2 px => ?_
  cases b with
  | true => exact hb σ H1 io1 Fr s1 px.1 _ _ e2 _ (fun x q H2 io2 py => hok x q H2 io2 ⟨py.1, px.2.trans py.2⟩) fun x q cls d H2 io2 py => hex x q cls d H2 io2 ⟨py.1, px.2.trans py.2.1, py.2.2⟩
  | false => cases e2; exact hok _ rfl H1 io1 px
theorem ref_or (ha : RefT K mg ea Wx ta ma) (hb : RefT K mg ea Wx tb mb) : RefT K mg ea Wx (tOr ta tb) (mOr ma mb) := by
  intro σ H io Fr s S0 r0 s' e Q hok hex
  refine tst2 ha S0 e hex fun b s1 H1 io1 e2 px => ?_
  cases b with
  | false => exact hb σ H1 io1 Fr s1 px.1 _ _ e2 _ (fun x q H2 io2 py => hok x q H2 io2 ⟨py.1, px.2.trans py.2⟩) fun x q cls d H2 io2 py => hex x q cls d H2 io2 ⟨py.1, px.2.trans py.2.1, py.2.2⟩
  | true => cases e2; exact hok _ rfl H1 io1 px
theorem ref_not (ha : RefT K mg ea Wx ta ma) : RefT K mg ea Wx (tNot ta) (mNot ma) := by
  intro σ H io Fr s S0 r0 s' e Q hok hex
  refine tst2 ha S0 e hex fun b s1 H1 io1 e2 px => ?_
  cases e2
  exact hok _ rfl H1 io1 px
end
section
variable {X : Cx} {ea : EA} {Wx : WX} {a b c : Expr} {ma mb mc : Mo RV} {pos : Pos}
theorem pee_name (i : Nat) {x : Str} {pos : Pos} (hN : X.N[i]? = some x := by rfl) (hv : Vis X.env.scope x := by first | exact Or.inl rfl | exact Or.inr (Or.inl rfl) | exact Or.inr (Or.inr rfl)) (hd : (x == ("__debug__" : Str)) = false := by decide)
    (hcd : (x == ("__classdict__" : Str)) = false := by decide) : Pee X ea Wx (.Name x pos) (mName i) := ⟨_, pe_var hN hv hd hcd, ref_name i⟩
theorem pee_int {i j pos} : Pee X ea Wx (.Constant (.int i) j pos) (mC (.int i)) := ⟨_, pe_int, ref_c fun _ _ _ => .int i⟩
theorem pee_bl {b j pos} : Pee X ea Wx (.Constant (.bool b) j pos) (mC (.bl b)) := ⟨_, pe_bl, ref_c fun _ _ _ => .bl b⟩
theorem pee_op {op : Operator} {f : W → W → Option OR} (ho : OpM X (binaryOp op) f) (ha : Pee X ea Wx a ma) (hb : Pee X ea Wx b mb) : Pee X ea Wx (.BinOp a op b pos) (mBin f ma mb) := by
  obtain ⟨ta, pa, ra⟩ := ha.ex
  obtain ⟨tb, pb, rb⟩ := hb.ex
  obtain ⟨r, h1, h2⟩ := ho
  exact ⟨_, pe_op h1 pa pb, ref_op (X := X) (g := binaryOp op) h2 ra rb⟩
theorem pee_un {op : UnaryOp} {f : W → Option OR} (ho : UnM X (unaryOp op) f) (ha : Pee X ea Wx a ma) : Pee X ea Wx (.UnaryOp op a pos) (mUn f ma) := by
  obtain ⟨ta, pa, ra⟩ := ha.ex
  obtain ⟨r, h1, h2⟩ := ho
  exact ⟨_, pe_un h1 pa, ref_un h2 ra⟩
theorem pee_cmp {op : CmpOp} {f : W → W → Option OR} (ho : OpM X (compareOp op) f) (ha : Pee X ea Wx a ma) (hb : Pee X ea Wx b mb) (hm : behindInMarks op b = false := by first | exact nomark _ | with_unfolding_all rfl) : Pee X ea Wx (.Compare a [op] [b] pos) (mBin f ma mb) := by
  obtain ⟨ta, pa, ra⟩ := ha.ex
  obtain ⟨tb, pb, rb⟩ := hb.ex
  obtain ⟨r, h1, h2⟩ := ho
  exact ⟨_, pe_cmpR h1 pa pb hm, ref_op (X := X) (g := compareOp op) h2 ra rb⟩
theorem pet_cmp {op : CmpOp} {f : W → W → Option OR} (ho : OpM X (compareOp op) f) (ha : Pee X ea Wx a ma) (hb : Pee X ea Wx b mb) (hm : behindInMarks op b = false := by first | exact nomark _ | with_unfolding_all rfl) : Pet X ea Wx (.Compare a [op] [b] pos) (mB (mBin f ma mb)) := by
  obtain ⟨ta, pa, ra⟩ := ha.ex
  obtain ⟨tb, pb, rb⟩ := hb.ex
  obtain ⟨r, h1, h2⟩ := ho
  exact ⟨_, pt_cmpR h1 pa pb hm, ref_test (ref_op (X := X) (g := compareOp op) h2 ra rb)⟩
theorem pet_val {e : Expr} {m : Mo RV} (h : Pee X ea Wx e m) (he : ∀ whole, isTrue e X.env whole = (do let v ← whole; standAt e.pos; holding [v] (truthy v)) := by intro _; rfl) : Pet X ea Wx e (mB m) := by
  obtain ⟨t, p, r⟩ := h.ex
  exact ⟨_, pt_val p he, ref_test r⟩
variable {tma tmb : Mo Bool} {rest : List Expr}
theorem pew_and1 (ha : Pet X ea Wx a tma) : Pew X ea Wx (.BoolOp .And [a] pos) tma := let ⟨_, p, r⟩ := ha.ex; ⟨_, pw_and1 p, r⟩
theorem pew_or1 (ha : Pet X ea Wx a tma) : Pew X ea Wx (.BoolOp .Or [a] pos) tma := let ⟨_, p, r⟩ := ha.ex; ⟨_, pw_or1 p, r⟩
theorem pew_and (ha : Pet X ea Wx a tma) (hb : Pew X ea Wx (.BoolOp .And (b :: rest) pos) tmb) : Pew X ea Wx (.BoolOp .And (a :: b :: rest) pos) (mAnd tma tmb) :=
  let ⟨_, p, r⟩ := ha.ex; let ⟨_, p', r'⟩ := hb.ex; ⟨_, pw_and p p', ref_and r r'⟩
theorem pew_or (ha : Pet X ea Wx a tma) (hb : Pew X ea Wx (.BoolOp .Or (b :: rest) pos) tmb) : Pew X ea Wx (.BoolOp .Or (a :: b :: rest) pos) (mOr tma tmb) :=
  let ⟨_, p, r⟩ := ha.ex; let ⟨_, p', r'⟩ := hb.ex; ⟨_, pw_or p p', ref_or r r'⟩
theorem Pew.pt {e : Expr} {m : Mo Bool} (h : Pew X ea Wx e m) : Pet X ea Wx e m := let ⟨_, p, r⟩ := h.ex; ⟨_, p.pt, r⟩
theorem pet_not (ha : Pet X ea Wx a tma) : Pet X ea Wx (.UnaryOp .Not a pos) (mNot tma) := let ⟨_, p, r⟩ := ha.ex; ⟨_, pt_not p, ref_not r⟩
end
end Z
set_option Elab.async false
set_option linter.all false
set_option maxRecDepth 100000
namespace Z
open PySem PySem.Spec PyProof.Rows L2
section
variable {K : PySem.W.Frag} {mg : Str → Option Value} {io : List Addr} {M : Addr → Prop} {H : Hp} {w : W} {v : V} {ws : List W}
theorem Rn.int {i : Int} (h : Rn K mg io M H (.int i) v) : v = .int i := by
  rcases h with h | ⟨c, o, a, e, _⟩
  · cases h; rfl
  · cases c <;> cases e
theorem Rn.bl {i : Bool} (h : Rn K mg io M H (.bl i) v) : v = .bl i := by
  rcases h with h | ⟨c, o, a, e, _⟩
  · cases h; rfl
  · cases c <;> cases e
theorem Rn.str {i : Str} (h : Rn K mg io M H (.str i) v) : v = .str i := by
  rcases h with h | ⟨c, o, a, e, _⟩
  · cases h; rfl
  · cases c <;> cases e
theorem Rn.byt {i : Array UInt8} (h : Rn K mg io M H (.byt i) v) : v = .byt i := by
  rcases h with h | ⟨c, o, a, e, _⟩
  · cases h; rfl
  · cases c <;> cases e
theorem Rn.non (h : Rn K mg io M H .non v) : v = .non := by
  rcases h with h | ⟨c, o, a, e, _⟩
  · cases h; rfl
  · cases c <;> cases e
theorem Rn.lst (h : Rn K mg io M H (.lst ws) v) : ∃ a vs, v = .ref a ∧ H a = some (.lst vs) ∧ Rws K mg io M H ws vs := by
  rcases h with h | ⟨c, o, a, e, rfl, ha, hc⟩
  · cases h with
    | lst h n l q => exact ⟨_, _, rfl, h, l, q⟩
  · cases c <;> cases e
    obtain ⟨vs, rfl, r⟩ := hc
    exact ⟨a, vs, rfl, ha, r⟩
theorem Rn.tup (h : Rn K mg io M H (.tup ws) v) : ∃ a vs, v = .ref a ∧ SqT K H a vs ∧ Rws K mg io M H ws vs := by
  rcases h with h | ⟨c, o, a, e, rfl, ha, hc⟩
  · cases h with
    | tup h l q => exact ⟨_, _, rfl, h.elim (fun z => SqT.of z.1) fun z => .inr z.1, l, q⟩
  · cases c <;> cases e
theorem Rn.tupRw (h : Rn K mg io M H (.tup ws) v) : Rw K mg io M H (.tup ws) v := by
  rcases h with h | ⟨c, o, a, e, rfl, ha, hc⟩
  · exact h
  · cases c <;> cases e
theorem Rn.tup1 (h : Rn K mg io M H (.tup (w :: ws)) v) : ∃ a vs, v = .ref a ∧ H a = some (.tup vs) ∧ Rws K mg io M H (w :: ws) vs := by
  rcases h with h | ⟨c, o, a, e, rfl, ha, hc⟩
  · cases h with
    | tup h l q =>
      rcases h with h | ⟨_, rfl⟩
      · exact ⟨_, _, rfl, h.1, l, q⟩
      · simp at l
  · cases c <;> cases e
theorem Rn.frl (h : Rn K mg io M H (.frl ws) v) : ∃ a vs, v = .ref a ∧ SqL K H a vs ∧ Rws K mg io M H ws vs := by
  rcases h with h | ⟨c, o, a, e, rfl, ha, hc⟩
  · cases h with
    | frl h l q => exact ⟨_, _, rfl, h.imp (fun z => z.1) id, l, q⟩
  · cases c <;> cases e
theorem Rn.dK {kvs : List (Key × W)} (h : Rn K mg io M H (.dK kvs) v) : ∃ a vs, v = .ref a ∧ Rd H a (.dK vs) ∧ Rkv K mg io M H kvs vs := by
  rcases h with h | ⟨c, o, a, e, rfl, ha, hc⟩
  · cases h with
    | dK h n l q => exact ⟨_, _, rfl, h, l, by simpa using congrArg List.length l, q⟩
  · cases c <;> cases e
    obtain ⟨vs, rfl, r⟩ := hc
    exact ⟨a, vs, rfl, .inl ha, r⟩
theorem Rn.dT {kvs : List (List Key × W)} (h : Rn K mg io M H (.dT kvs) v) : ∃ a vs, v = .ref a ∧ Rd H a (.dT vs) ∧ Rkv K mg io M H kvs vs := by
  rcases h with h | ⟨c, o, a, e, rfl, ha, hc⟩
  · cases h with
    | dT h n l q => exact ⟨_, _, rfl, h, l, by simpa using congrArg List.length l, q⟩
  · cases c <;> cases e
    obtain ⟨vs, rfl, r⟩ := hc
    exact ⟨a, vs, rfl, .inl ha, r⟩
theorem Rn.dF {kvs : List (List Key × W)} (h : Rn K mg io M H (.dF kvs) v) : ∃ a ob vs, v = .ref a ∧ H a = some (.frz ob (.dT vs)) ∧ ¬ M a ∧ Rkv K mg io M H kvs vs := by
  rcases h with h | ⟨c, o, a, e, rfl, ha, hc⟩
  · cases h with
    | dF h n l q => exact ⟨_, _, _, rfl, h, n, l, by simpa using congrArg List.length l, q⟩
  · cases c <;> cases e
theorem Rn.obj {nm : Str} {fs : List (Str × W)} (h : Rn K mg io M H (.obj nm fs) v) : ∃ a C dx vs, v = .ref a ∧ mg nm = some (.ref C) ∧ H a = some (.ins C dx vs) ∧ Rkv K mg io M H fs vs := by
  rcases h with h | ⟨c, o, a, e, rfl, ha, hc⟩
  · cases h with
    | obj m h n l q => exact ⟨_, _, _, _, rfl, m, h, l, by simpa using congrArg List.length l, q⟩
  · cases c <;> cases e
    obtain ⟨C, dx, vs, rfl, m, r⟩ := hc
    exact ⟨a, C, dx, vs, rfl, m, ha, r⟩
theorem Rn.seq {v : V} (h : Rn K mg io M H w v) (e : w = .lst ws ∨ w = .frl ws ∨ w = .tup ws) : ∃ a vs, v = .ref a ∧ (SqL K H a vs ∨ SqT K H a vs) ∧ Rws K mg io M H ws vs := by
  rcases e with rfl | rfl | rfl
  · obtain ⟨a, vs, e, q, r⟩ := h.lst; exact ⟨a, vs, e, .inl (.inl (.inl q)), r⟩
  · obtain ⟨a, vs, e, q, r⟩ := h.frl; exact ⟨a, vs, e, .inl q, r⟩
  · obtain ⟨a, vs, e, q, r⟩ := h.tup; exact ⟨a, vs, e, .inr q, r⟩
def seqOf : W → Option (List W)
  | .lst ws => some ws
  | .frl ws => some ws
  | .tup ws => some ws
  | _ => none
theorem seqOf_some (e : seqOf w = some ws) : w = .lst ws ∨ w = .frl ws ∨ w = .tup ws := by
  cases w <;> simp [seqOf] at e <;> subst e <;> simp
mutual
def toPD : W → Option PyData
  | .non => some .none
  | .bl b => some (.bool b)
  | .int i => some (.int i)
  | .str x => some (.str x)
  | .lst ws => (toPDs ws).map .list
  | .frl ws => (toPDs ws).map .list
  | .tup ws => (toPDs ws).map .tuple
  | _ => none
def toPDs : List W → Option (List PyData)
  | [] => some []
  | w :: ws => match toPD w, toPDs ws with
    | some d, some ds => some (d :: ds)
    | _, _ => none
end
theorem dpAll_of : ∀ {ws : List W} {vs : List V} {ds : List PyData}, ws.length = vs.length → (∀ (i : Nat) (w : W) (v : V), ws[i]? = some w → vs[i]? = some v → ∀ d, toPD w = some d → Dp K H v d) → toPDs ws = some ds → DpAll K H vs ds
  | [], [], ds, _, _, e => by simp only [toPDs, Option.some.injEq] at e; subst e; exact .nil
  | [], _ :: _, _, l, _, _ => by simp at l
  | _ :: _, [], _, l, _, _ => by simp at l
  | w :: ws, v :: vs, ds, l, h, e => by
    simp only [toPDs] at e
    cases e1 : toPD w with
    | none => rw [e1] at e; simp at e
    | some d =>
      cases e2 : toPDs ws with
      | none => rw [e1, e2] at e; simp at e
      | some ds' =>
        rw [e1, e2] at e
        simp only [Option.some.injEq] at e
        subst e
        exact .cons (h 0 w v rfl rfl d e1) (dpAll_of (by simpa using l) (fun i w' v' a b => h (i + 1) w' v' (by simpa using a) (by simpa using b)) e2)
theorem Rw.dp {d : PyData} (h : Rw K mg io M H w v) (e : toPD w = some d) : Dp K H v d := by
  induction h generalizing d with
  | non => simp only [toPD, Option.some.injEq] at e; subst e; exact .non
  | bl b => simp only [toPD, Option.some.injEq] at e; subst e; exact .bl b
  | int i => simp only [toPD, Option.some.injEq] at e; subst e; exact .int i
  | str x => simp only [toPD, Option.some.injEq] at e; subst e; exact .str x
  | byt b => simp [toPD] at e
  | tup h l _ ih =>
    simp only [toPD, Option.map_eq_some_iff] at e
    obtain ⟨ds, e1, rfl⟩ := e
    exact .tup (h.elim (fun z => SqT.of z.1) fun z => .inr z.1) (dpAll_of l (fun i w v a b d q => ih i w v a b q) e1)
  | frl h l _ ih =>
    simp only [toPD, Option.map_eq_some_iff] at e
    obtain ⟨ds, e1, rfl⟩ := e
    exact .lst (h.imp (fun z => z.1) id) (dpAll_of l (fun i w v a b d q => ih i w v a b q) e1)
  | lst h n l _ ih =>
    simp only [toPD, Option.map_eq_some_iff] at e
    obtain ⟨ds, e1, rfl⟩ := e
    exact .lst (SqL.of h) (dpAll_of l (fun i w v a b d q => ih i w v a b q) e1)
  | dK h n l _ ih => simp [toPD] at e
  | dT h n l _ ih => simp [toPD] at e
  | dF h n l _ ih => simp [toPD] at e
  | obj m h n l _ ih => simp [toPD] at e
  | slt m h n h2 n2 l _ ih => simp [toPD] at e
  | ref h => simp [toPD] at e
theorem Rn.dp {d : PyData} (h : Rn K mg io M H w v) (e : toPD w = some d) : Dp K H v d := by
  rcases h with h | ⟨c, o, a, rfl, rfl, ha, hc⟩
  · exact h.dp e
  · cases c with
    | lst ws =>
      obtain ⟨vs, rfl, r⟩ := hc
      simp only [Cell.toW, toPD, Option.map_eq_some_iff] at e
      obtain ⟨ds, e1, rfl⟩ := e
      exact .lst (SqL.of ha) (dpAll_of r.1 (fun i w v a b d q => (r.2 i w v a b).dp q) e1)
    | dK ws => simp [toPD] at e
    | dT ws => simp [toPD] at e
    | ins nm ws => simp [toPD] at e
end
instance (i j : Int) : Decidable (CMul i j) := by unfold CMul; infer_instance
instance (i j : Int) : Decidable (CDivW i j) := by unfold CDivW; infer_instance
instance (i j : Int) : Decidable (CPow i j) := by unfold CPow; infer_instance
def fI (g : Int → Int → Int) : W → W → Option OR
  | .int i, .int j => some (.imm (.int (g i j)))
  | _, _ => none
def fIC (C : Int → Int → Prop) [∀ i j, Decidable (C i j)] (g : Int → Int → Int) : W → W → Option OR
  | .int i, .int j => if C i j then some (.imm (.int (g i j))) else none
  | _, _ => none
def fIB (g : Int → Int → Bool) : W → W → Option OR
  | .int i, .int j => some (.imm (.bl (g i j)))
  | _, _ => none
section
variable {X : Cx}
theorem om_I {g : Int → Int → Int} {op : Value → Value → Sem Value} (h : OpR X op (rI0 fun i j => .int (g i j))) : OpM X op (fI g) := by
  refine ⟨_, h, fun io M H x y vx vy z Q rx ry e q => ?_⟩
  unfold fI at e
  split at e
  · rename_i i j
    cases e
    exact ⟨i, j, rx.int, ry.int, q _ (.int _)⟩
  · cases e
theorem om_IC {C : Int → Int → Prop} [∀ i j, Decidable (C i j)] {g : Int → Int → Int} {op : Value → Value → Sem Value} (h : OpR X op (rI C fun i j => .int (g i j))) : OpM X op (fIC C g) := by
  refine ⟨_, h, fun io M H x y vx vy z Q rx ry e q => ?_⟩
  unfold fIC at e
  split at e
  · rename_i i j
    split at e
    · rename_i hc
      cases e
      exact ⟨i, j, rx.int, ry.int, hc, q _ (.int _)⟩
    · cases e
  · cases e
theorem om_IB {g : Int → Int → Bool} {op : Value → Value → Sem Value} (h : OpR X op (rI0 fun i j => .bl (g i j))) : OpM X op (fIB g) := by
  refine ⟨_, h, fun io M H x y vx vy z Q rx ry e q => ?_⟩
  unfold fIB at e
  split at e
  · rename_i i j
    cases e
    exact ⟨i, j, rx.int, ry.int, q _ (.bl _)⟩
  · cases e
def fU (g : Int → Int) : W → Option OR
  | .int i => some (.imm (.int (g i)))
  | _ => none
theorem um_I {g : Int → Int} {op : Value → Sem Value} (h : UnR X op (rU fun i => .int (g i))) : UnM X op (fU g) := by
  refine ⟨_, h, fun io M H x vx z Q rx e q => ?_⟩
  unfold fU at e
  split at e
  · rename_i i
    cases e
    exact ⟨i, rx.int, q _ (.int _)⟩
  · cases e
def sz : Nat := 16777216
theorem sz_eq : sizeLine = sz := sizeLine_eq
def fAddS : W → W → Option OR
  | .str a, .str b => if a.length + b.length ≤ sz then some (.imm (.str (a ++ b))) else none
  | _, _ => none
theorem om_addS : OpM X (binaryOp .Add) fAddS := by
  refine ⟨_, op_add_str, fun io M H x y vx vy z Q rx ry e q => ?_⟩
  unfold fAddS at e
  split at e
  · split at e
    · rename_i h
      cases e
      exact ⟨_, _, rx.str, ry.str, by rw [sz_eq]; exact h, q _ (.str _)⟩
    · cases e
  · cases e
def fAddL : W → W → Option OR
  | .lst a, .lst b => if a.length + b.length ≤ sz then some (.newl (a ++ b)) else none
  | _, _ => none
theorem om_addL : OpM X (binaryOp .Add) fAddL := by
  refine ⟨_, op_cat, fun io M H x y vx vy z Q rx ry e q => ?_⟩
  unfold fAddL at e
  split at e
  · split at e
    · rename_i h
      cases e
      obtain ⟨a, vs, rfl, ha, r1⟩ := rx.lst
      obtain ⟨b, us, rfl, hb, r2⟩ := ry.lst
      exact ⟨a, b, vs, us, rfl, rfl, ha, hb, by rw [sz_eq, ← r1.1, ← r2.1]; exact h, fun p hp => q p _ hp (r1.append r2)⟩
    · cases e
  · cases e
def fAddT : W → W → Option OR
  | .tup [], .tup bs => if bs.length ≤ sz then some (.imm (.tup bs)) else none
  | .tup (a :: as), .tup [] => if (a :: as).length ≤ sz then some (.imm (.tup (a :: as))) else none
  | .tup (a :: as), .tup (b :: bs) => if (a :: as).length + (b :: bs).length ≤ sz then some (.newt (a :: as ++ b :: bs)) else none
  | _, _ => none
theorem om_addT : OpM X (binaryOp .Add) fAddT := by
  refine ⟨_, op_catA, fun io M H x y vx vy z Q rx ry e q => ?_⟩
  unfold fAddT at e
  split at e
  · split at e
    · rename_i h
      cases e
      have rw := ry.tupRw
      obtain ⟨a, vs, rfl, ha, r1⟩ := rx.tup
      obtain ⟨b, us, rfl, hb, r2⟩ := ry.tup
      have hv : vs = [] := by have := r1.1; simpa using this.symm
      subst hv
      refine ⟨a, b, [], us, rfl, rfl, ha, hb, by rw [sz_eq, ← r2.1]; simpa using h, fun _ => q _ rw, fun z => absurd rfl z, fun z => absurd rfl z⟩
    · cases e
  · split at e
    · rename_i h
      cases e
      have rw := rx.tupRw
      obtain ⟨a, vs, rfl, ha, r1⟩ := rx.tup
      obtain ⟨b, us, rfl, hb, r2⟩ := ry.tup
      have hu : us = [] := by have := r2.1; simpa using this.symm
      subst hu
      refine ⟨a, b, vs, [], rfl, rfl, ha, hb, by rw [sz_eq, ← r1.1]; simpa using h, fun z => ?_, fun _ _ => q _ rw, fun _ z => absurd rfl z⟩
      have := r1.1; rw [z] at this; simp at this
    · cases e
  · split at e
    · rename_i h
      cases e
      obtain ⟨a, vs, rfl, ha, r1⟩ := rx.tup
      obtain ⟨b, us, rfl, hb, r2⟩ := ry.tup
      refine ⟨a, b, vs, us, rfl, rfl, ha, hb, by rw [sz_eq, ← r1.1, ← r2.1]; exact h, fun z => ?_, fun _ z => ?_, fun _ _ p hp => q p _ hp (r1.append r2)⟩
      · have := r1.1; rw [z] at this; simp at this
      · have := r2.1; rw [z] at this; simp at this
    · cases e
  · cases e
def fAdd : W → W → Option OR := orf (fI fun i j => i + j) (orf fAddS (orf fAddL fAddT))
theorem om_add : OpM X (binaryOp .Add) fAdd := (om_I op_add).or (om_addS.or (om_addL.or om_addT))
def fSub : W → W → Option OR := fI fun i j => i - j
theorem om_sub : OpM X (binaryOp .Sub) fSub := om_I op_sub
def repW (ws : List W) (k : Nat) : List W := (List.replicate k ws).flatten
def fRepL : W → W → Option OR
  | .lst a, .int k => if -(2 ^ 63) ≤ k ∧ k < 2 ^ 63 ∧ a.length * k.toNat ≤ sz then some (.newl (repW a k.toNat)) else none
  | _, _ => none
end
end Z
set_option Elab.async false
set_option linter.all false
set_option maxRecDepth 100000
namespace Z
open PySem PySem.Spec PyProof.Rows L2
section
variable {X : Cx}
theorem Rws.rep {K : PySem.W.Frag} {mg : Str → Option Value} {io : List Addr} {M : Addr → Prop} {H : Hp} {ws : List W} {vs : List V} (h : Rws K mg io M H ws vs) : ∀ k : Nat, Rws K mg io M H (repW ws k) (List.replicate k vs).flatten
  | 0 => Rws.nil
  | k + 1 => by
    unfold repW
    rw [List.replicate_succ, List.replicate_succ, List.flatten_cons, List.flatten_cons]
    exact h.append (Rws.rep h k)
theorem om_repL : OpM X (binaryOp .Mult) fRepL := by
  refine ⟨_, op_rep, fun io M H x y vx vy z Q rx ry e q => ?_⟩
  unfold fRepL at e
  split at e
  · split at e
    · rename_i h
      cases e
      obtain ⟨a, vs, rfl, ha, r1⟩ := rx.lst
      exact ⟨a, _, vs, rfl, ry.int, ha, h.1, h.2.1, by rw [sz_eq, ← r1.1]; exact h.2.2, fun p hp => q p _ hp (r1.rep _)⟩
    · cases e
  · cases e
def fMul : W → W → Option OR := orf (fIC CMul fun i j => i * j) fRepL
theorem om_mul : OpM X (binaryOp .Mult) fMul := (om_IC op_mul).or om_repL
def fDiv : W → W → Option OR := fIC CDivW fun i j => i / j
theorem om_div : OpM X (binaryOp .FloorDiv) fDiv := om_IC op_fdivW
def fMod : W → W → Option OR := fIC (fun _ j => 0 < j) fun i j => i % j
theorem om_mod : OpM X (binaryOp .Mod) fMod := om_IC op_mod
def fPow : W → W → Option OR := fIC CPow fun i j => i ^ j.toNat
theorem om_pow : OpM X (binaryOp .Pow) fPow := om_IC op_pow
def fShl : W → W → Option OR := fIC CPow fun i j => i * 2 ^ j.toNat
theorem om_shl : OpM X (binaryOp .LShift) fShl := om_IC op_shl
def fShr : W → W → Option OR := fIC (fun _ j => 0 ≤ j) fun i j => i / 2 ^ j.toNat
theorem om_shr : OpM X (binaryOp .RShift) fShr := om_IC op_shr
def fBAnd : W → W → Option OR := fI Builtin.bitAnd
theorem om_band : OpM X (binaryOp .BitAnd) fBAnd := om_I op_and
def fNeg : W → Option OR := fU fun i => -i
theorem um_neg : UnM X (unaryOp .USub) fNeg := um_I un_neg
def fLt : W → W → Option OR := fIB fun i j => decide (i < j)
theorem om_lt : OpM X (compareOp .Lt) fLt := om_IB op_lt
def fLe : W → W → Option OR := fIB fun i j => decide (i ≤ j)
theorem om_le : OpM X (compareOp .LtE) fLe := om_IB op_le
def eqP (x y : W) : Option Bool := match toPD x, toPD y with
  | some d, some e => if SeqAt.shaped d = true ∧ SeqAt.shaped e = true then some (PyData.eqv d e) else none
  | _, _ => none
theorem eqP_some {x y : W} {b : Bool} (h : eqP x y = some b) : ∃ d e, toPD x = some d ∧ toPD y = some e ∧ SeqAt.shaped d = true ∧ SeqAt.shaped e = true ∧ b = PyData.eqv d e := by
  unfold eqP at h
  split at h
  · rename_i d e h1 h2
    split at h
    · rename_i h3
      cases h
      exact ⟨d, e, h1, h2, h3.1, h3.2, rfl⟩
    · cases h
  · cases h
def fEqD (x y : W) : Option OR := (eqP x y).map fun b => .imm (.bl b)
def fNeD (x y : W) : Option OR := (eqP x y).map fun b => .imm (.bl (!b))
theorem om_eqD (hu : X.A.units + 64 < cLine) : OpM X (compareOp .Eq) fEqD := by
  refine ⟨_, op_eqD hu, fun io M H x y vx vy z Q rx ry e q => ?_⟩
  unfold fEqD at e
  obtain ⟨b, e1, rfl⟩ := Option.map_eq_some_iff.mp e
  obtain ⟨d, e', h1, h2, h3, h4, rfl⟩ := eqP_some e1
  exact ⟨d, e', rx.dp h1, ry.dp h2, h3, h4, q _ (.bl _)⟩
theorem om_neD (hu : X.A.units + 64 < cLine) : OpM X (compareOp .NotEq) fNeD := by
  refine ⟨_, op_neD hu, fun io M H x y vx vy z Q rx ry e q => ?_⟩
  unfold fNeD at e
  obtain ⟨b, e1, rfl⟩ := Option.map_eq_some_iff.mp e
  obtain ⟨d, e', h1, h2, h3, h4, rfl⟩ := eqP_some e1
  exact ⟨d, e', rx.dp h1, ry.dp h2, h3, h4, q _ (.bl _)⟩
def anyP (x : W) (ws : List W) : Option Bool := match toPD x, toPDs ws with
  | some d, some ds => if SeqAt.shaped d = true ∧ SeqAt.shaped (.list ds) = true then some (ds.any fun z => PyData.eqv z d) else none
  | _, _ => none
def fInL (neg : Bool) : W → W → Option OR
  | x, .lst ws => (anyP x ws).map fun b => .imm (.bl (b != neg))
  | x, .frl ws => (anyP x ws).map fun b => .imm (.bl (b != neg))
  | _, _ => none
theorem anyP_some {x : W} {ws : List W} {b : Bool} (h : anyP x ws = some b) : ∃ d ds, toPD x = some d ∧ toPDs ws = some ds ∧ SeqAt.shaped d = true ∧ SeqAt.shaped (.list ds) = true ∧ b = ds.any fun z => PyData.eqv z d := by
  unfold anyP at h
  split at h
  · rename_i d e h1 h2
    split at h
    · rename_i h3
      cases h
      exact ⟨d, e, h1, h2, h3.1, h3.2, rfl⟩
    · cases h
  · cases h
theorem om_inL (hu : X.A.units + 65 < cLine) : OpM X (compareOp .In) (fInL false) := by
  refine ⟨_, op_inD hu, fun io M H x y vx vy z Q rx ry e q => ?_⟩
  unfold fInL at e
  split at e
  · obtain ⟨b, e1, rfl⟩ := Option.map_eq_some_iff.mp e
    obtain ⟨d, ds, h1, h2, h3, h4, rfl⟩ := anyP_some e1
    refine ⟨d, ds, rx.dp h1, ry.dp (by simp [toPD, h2]), h3, h4, ?_⟩
    simpa using q _ (.bl _)
  · obtain ⟨b, e1, rfl⟩ := Option.map_eq_some_iff.mp e
    obtain ⟨d, ds, h1, h2, h3, h4, rfl⟩ := anyP_some e1
    refine ⟨d, ds, rx.dp h1, ry.dp (by simp [toPD, h2]), h3, h4, ?_⟩
    simpa using q _ (.bl _)
  · cases e
theorem om_notInL (hu : X.A.units + 65 < cLine) : OpM X (compareOp .NotIn) (fInL true) := by
  refine ⟨_, op_notInD hu, fun io M H x y vx vy z Q rx ry e q => ?_⟩
  unfold fInL at e
  split at e
  · obtain ⟨b, e1, rfl⟩ := Option.map_eq_some_iff.mp e
    obtain ⟨d, ds, h1, h2, h3, h4, rfl⟩ := anyP_some e1
    refine ⟨d, ds, rx.dp h1, ry.dp (by simp [toPD, h2]), h3, h4, ?_⟩
    have := q _ (.bl _)
    rwa [Bool.bne_true] at this
  · obtain ⟨b, e1, rfl⟩ := Option.map_eq_some_iff.mp e
    obtain ⟨d, ds, h1, h2, h3, h4, rfl⟩ := anyP_some e1
    refine ⟨d, ds, rx.dp h1, ry.dp (by simp [toPD, h2]), h3, h4, ?_⟩
    have := q _ (.bl _)
    rwa [Bool.bne_true] at this
  · cases e
def toV : W → Option V
  | .non => some .non
  | .bl b => some (.bl b)
  | .int i => some (.int i)
  | .str x => some (.str x)
  | _ => none
def toVs : List W → Option (List V)
  | [] => some []
  | w :: ws => match toV w, toVs ws with
    | some v, some vs => some (v :: vs)
    | _, _ => none
theorem Rw.toV {K : PySem.W.Frag} {mg : Str → Option Value} {io : List Addr} {M : Addr → Prop} {H : Hp} {w : W} {v u : V} (h : Rw K mg io M H w v) (e : Z.toV w = some u) : v = u ∧ flatV u = true := by
  cases h <;> simp [Z.toV] at e <;> subst e <;> exact ⟨rfl, rfl⟩
theorem Rn.toV {K : PySem.W.Frag} {mg : Str → Option Value} {io : List Addr} {M : Addr → Prop} {H : Hp} {w : W} {v u : V} (h : Rn K mg io M H w v) (e : Z.toV w = some u) : v = u ∧ flatV u = true := by
  rcases h with h | ⟨c, o, a, rfl, rfl, ha, hc⟩
  · exact h.toV e
  · cases c <;> simp [Z.toV] at e
theorem Rws.toVs {K : PySem.W.Frag} {mg : Str → Option Value} {io : List Addr} {M : Addr → Prop} {H : Hp} : ∀ {ws : List W} {vs us : List V}, Rws K mg io M H ws vs → Z.toVs ws = some us → vs = us ∧ us.all flatV = true
  | [], vs, us, h, e => by
    rw [h.nil_inv]
    simp only [Z.toVs, Option.some.injEq] at e
    subst e
    exact ⟨rfl, rfl⟩
  | w :: ws, vs, us, h, e => by
    obtain ⟨v, r, rfl, h1, h2⟩ := h.cons_inv
    simp only [Z.toVs] at e
    cases e1 : Z.toV w with
    | none => rw [e1] at e; simp at e
    | some u =>
      cases e2 : Z.toVs ws with
      | none => rw [e1, e2] at e; simp at e
      | some us' =>
        rw [e1, e2] at e
        simp only [Option.some.injEq] at e
        subst e
        obtain ⟨rfl, f1⟩ := h1.toV e1
        obtain ⟨rfl, f2⟩ := Rws.toVs h2 e2
        exact ⟨rfl, by simp [f1, f2]⟩
def fInT (neg : Bool) : W → W → Option OR
  | x, .tup ws => match Z.toV x, Z.toVs ws with
    | some v, some vs => some (.imm (.bl (inV v vs != neg)))
    | _, _ => none
  | _, _ => none
theorem om_inT : OpM X (compareOp .In) (fInT false) := by
  refine ⟨_, op_in_seq, fun io M H x y vx vy z Q rx ry e q => ?_⟩
  unfold fInT at e
  split at e
  · split at e
    · rename_i h1 h2
      cases e
      obtain ⟨a, vs, rfl, ha, r⟩ := ry.tup
      obtain ⟨rfl, f1⟩ := rx.toV h1
      obtain ⟨rfl, f2⟩ := r.toVs h2
      refine ⟨a, _, rfl, .inr ha, f1, f2, ?_⟩
      simpa using q _ (.bl _)
    · cases e
  · cases e
theorem om_notInT : OpM X (compareOp .NotIn) (fInT true) := by
  refine ⟨_, op_notIn_seq, fun io M H x y vx vy z Q rx ry e q => ?_⟩
  unfold fInT at e
  split at e
  · split at e
    · rename_i h1 h2
      cases e
      obtain ⟨a, vs, rfl, ha, r⟩ := ry.tup
      obtain ⟨rfl, f1⟩ := rx.toV h1
      obtain ⟨rfl, f2⟩ := r.toVs h2
      refine ⟨a, _, rfl, .inr ha, f1, f2, ?_⟩
      have := q _ (.bl _)
      rwa [Bool.bne_true] at this
    · cases e
  · cases e
def keyOf : W → Option Key
  | .int i => some (.inl i)
  | .str x => some (.inr x)
  | _ => none
def keysOf : List W → Option (List Key)
  | [] => some []
  | w :: ws => match keyOf w, keysOf ws with
    | some v, some vs => some (v :: vs)
    | _, _ => none
theorem Rn.key {K : PySem.W.Frag} {mg : Str → Option Value} {io : List Addr} {M : Addr → Prop} {H : Hp} {w : W} {v : V} {k : Key} (h : Rn K mg io M H w v) (e : keyOf w = some k) : v = kV k := by
  rcases h with h | ⟨c, o, a, rfl, rfl, ha, hc⟩
  · cases h <;> simp [keyOf] at e <;> subst e <;> rfl
  · cases c <;> simp [keyOf] at e
theorem Rws.keys {K : PySem.W.Frag} {mg : Str → Option Value} {io : List Addr} {M : Addr → Prop} {H : Hp} : ∀ {ws : List W} {vs : List V} {ks : List Key}, Rws K mg io M H ws vs → keysOf ws = some ks → vs = ks.map kV
  | [], vs, ks, h, e => by
    rw [h.nil_inv]
    simp only [keysOf, Option.some.injEq] at e
    subst e
    rfl
  | w :: ws, vs, ks, h, e => by
    obtain ⟨v, r, rfl, h1, h2⟩ := h.cons_inv
    simp only [keysOf] at e
    cases e1 : keyOf w with
    | none => rw [e1] at e; simp at e
    | some u =>
      cases e2 : keysOf ws with
      | none => rw [e1, e2] at e; simp at e
      | some us' =>
        rw [e1, e2] at e
        simp only [Option.some.injEq] at e
        subst e
        rw [(Rn.key (.inl h1) e1), Rws.keys h2 e2]
        rfl
def tkOf : W → Option (List Key)
  | .tup (w :: ws) => keysOf (w :: ws)
  | _ => none
def valW {κ : Type} [DecidableEq κ] (kvs : List (κ × W)) (k : κ) : Option W := (kvs.find? fun kv => decide (kv.1 = k)).map (·.2)
theorem Rkv.valW {κ : Type} [DecidableEq κ] {K : PySem.W.Frag} {mg : Str → Option Value} {io : List Addr} {M : Addr → Prop} {H : Hp} {k : κ} : ∀ {ws : List (κ × W)} {vs : List (κ × V)}, Rkv K mg io M H ws vs →
    (Z.valW ws k).isSome = (valV vs k).isSome ∧ ∀ w, Z.valW ws k = some w → ∃ v, valV vs k = some v ∧ Rw K mg io M H w v
  | [], vs, h => by rw [h.nil_inv]; exact ⟨rfl, fun w e => by simp [Z.valW] at e⟩
  | (k', w') :: ws, vs, h => by
    obtain ⟨v, r, rfl, h1, h2⟩ := h.cons_inv
    by_cases q : k' = k
    · refine ⟨?_, fun w e => ?_⟩
      · rw [valV_pos (p := (k', v)) q]; simp [Z.valW, q]
      · simp [Z.valW, q] at e
        subst e
        exact ⟨v, valV_pos (p := (k', v)) q, h1⟩
    · obtain ⟨i1, i2⟩ := Rkv.valW h2
      have e0 : Z.valW ((k', w') :: ws) k = Z.valW ws k := by simp [Z.valW, q]
      rw [e0, valV_neg (p := (k', v)) q]
      exact ⟨i1, i2⟩
def dLook : W → W → Option (Option W)
  | .dK kvs, k => (keyOf k).map fun k => valW kvs k
  | .dT kvs, k => (tkOf k).map fun k => valW kvs k
  | .dF kvs, k => (tkOf k).map fun k => valW kvs k
  | _, _ => none
theorem tk_inv {k : W} {ks : List Key} (h : tkOf k = some ks) : ∃ w ws, k = .tup (w :: ws) ∧ keysOf (w :: ws) = some ks := by
  unfold tkOf at h
  split at h
  · exact ⟨_, _, rfl, h⟩
  · cases h
theorem dLook_ok {K : PySem.W.Frag} {mg : Str → Option Value} {io : List Addr} {M : Addr → Prop} {H : Hp} {d k : W} {vd vk : V} {r : Option W} (hd : Rn K mg io M H d vd) (hk : Rn K mg io M H k vk) (e : dLook d k = some r) :
    ∃ a o, vd = .ref a ∧ DGet H a vk o ∧ o.isSome = r.isSome ∧ ∀ w, r = some w → ∃ v, o = some v ∧ Rw K mg io M H w v := by
  unfold dLook at e
  split at e
  · obtain ⟨k', e1, rfl⟩ := Option.map_eq_some_iff.mp e
    obtain ⟨a, vs, rfl, ha, rr⟩ := hd.dK
    obtain ⟨i1, i2⟩ := rr.valW (k := k')
    exact ⟨a, valV vs k', rfl, .inl ⟨vs, k', ha, hk.key e1, rfl⟩, i1.symm, i2⟩
  · obtain ⟨k', e1, rfl⟩ := Option.map_eq_some_iff.mp e
    obtain ⟨a, vs, rfl, ha, rr⟩ := hd.dT
    obtain ⟨i1, i2⟩ := rr.valW (k := k')
    obtain ⟨w, ws, rfl, e2⟩ := tk_inv e1
    obtain ⟨b, us, rfl, hb, r2⟩ := hk.tup1
    exact ⟨a, valV vs k', rfl, .inr ⟨vs, k', b, ha, rfl, by rw [hb, r2.keys e2], rfl⟩, i1.symm, i2⟩
  · obtain ⟨k', e1, rfl⟩ := Option.map_eq_some_iff.mp e
    obtain ⟨a, ob, vs, rfl, ha, _, rr⟩ := hd.dF
    obtain ⟨i1, i2⟩ := rr.valW (k := k')
    obtain ⟨w, ws, rfl, e2⟩ := tk_inv e1
    obtain ⟨b, us, rfl, hb, r2⟩ := hk.tup1
    exact ⟨a, valV vs k', rfl, .inr ⟨vs, k', b, .inr ⟨ob, ha⟩, rfl, by rw [hb, r2.keys e2], rfl⟩, i1.symm, i2⟩
  · cases e
def fInD (neg : Bool) : W → W → Option OR := fun k d => (dLook d k).map fun r => .imm (.bl (r.isSome != neg))
theorem om_inDict (hu : X.A.units + 1 < cLine) : OpM X (compareOp .In) (fInD false) := by
  refine ⟨fun y x H Q => ∃ a o, x = .ref a ∧ DGet H a y o ∧ Q (.bl o.isSome) H, ?_, fun io M H x y vx vy z Q rx ry e q => ?_⟩
  · intro pins s σ H x y v u Q I rx ry h
    obtain ⟨a, o, rfl, g, q⟩ := h
    cases ry
    exact d_in hu I g rx fun s' I' => ⟨.bl o.isSome, H, I', rfl, q⟩
  · obtain ⟨r, e1, rfl⟩ := Option.map_eq_some_iff.mp e
    obtain ⟨a, o, rfl, g, h1, _⟩ := dLook_ok ry rx e1
    refine ⟨a, o, rfl, g, ?_⟩
    rw [h1]
    simpa using q _ (.bl _)
theorem om_notInDict (hu : X.A.units + 1 < cLine) : OpM X (compareOp .NotIn) (fInD true) := by
  refine ⟨fun y x H Q => ∃ a o, x = .ref a ∧ DGet H a y o ∧ Q (.bl (!o.isSome)) H, ?_, fun io M H x y vx vy z Q rx ry e q => ?_⟩
  · intro pins s σ H x y v u Q I rx ry h
    obtain ⟨a, o, rfl, g, q⟩ := h
    cases ry
    exact d_notIn hu I g rx fun s' I' => ⟨.bl (!o.isSome), H, I', rfl, q⟩
  · obtain ⟨r, e1, rfl⟩ := Option.map_eq_some_iff.mp e
    obtain ⟨a, o, rfl, g, h1, _⟩ := dLook_ok ry rx e1
    refine ⟨a, o, rfl, g, ?_⟩
    rw [h1]
    have := q _ (.bl _)
    rwa [Bool.bne_true] at this
def fIn (neg : Bool) : W → W → Option OR := orf (fInL neg) (orf (fInT neg) (fInD neg))
theorem om_in (hu : X.A.units + 65 < cLine) : OpM X (compareOp .In) (fIn false) := (om_inL hu).or (om_inT.or (om_inDict (by omega)))
theorem om_notIn (hu : X.A.units + 65 < cLine) : OpM X (compareOp .NotIn) (fIn true) := (om_notInL hu).or (om_notInT.or (om_notInDict (by omega)))
def IxM (X : Cx) (f : W → W → Option OR) : Prop :=
  ∃ r : R2, IxR X r ∧ ∀ io M H x y vx vy z Q, Rn X.K X.mg io M H x vx → Rn X.K X.mg io M H y vy → f x y = some z → OQ X.K X.mg io M H z Q → r vx vy H Q
theorem IxM.or {f f' : W → W → Option OR} (h : IxM X f) (h' : IxM X f') : IxM X (orf f f') := by
  obtain ⟨r, a, b⟩ := h
  obtain ⟨r', a', b'⟩ := h'
  refine ⟨_, a.or a', fun io M H x y vx vy z Q rx ry e q => ?_⟩
  unfold orf at e
  cases k : f x y with
  | some z' =>
    rw [k] at e
    cases e
    exact .inl (b io M H x y vx vy z Q rx ry k q)
  | none =>
    rw [k] at e
    exact .inr (b' io M H x y vx vy z Q rx ry e q)
theorem Rws.atI {K : PySem.W.Frag} {mg : Str → Option Value} {io : List Addr} {M : Addr → Prop} {H : Hp} {ws : List W} {vs : List V} {i : Int} {w : W} (r : Rws K mg io M H ws vs) (e : L2.atI ws i = some w) : ∃ v, L2.atI vs i = some v ∧ Rw K mg io M H w v := by
  unfold L2.atI at e ⊢
  obtain ⟨j, e1, e2⟩ := Option.bind_eq_some_iff.mp e
  obtain ⟨v, h1, h2⟩ := r.get e2
  exact ⟨v, by rw [← r.1, e1]; exact h1, h2⟩
def fIxS : W → W → Option OR
  | .lst ws, .int i => (atI ws i).map .imm
  | .frl ws, .int i => (atI ws i).map .imm
  | .tup ws, .int i => (atI ws i).map .imm
  | .str z, .int i => if z.length ≤ sz then (atI z.cps.toList i).map fun c => .imm (.str ⟨#[c]⟩) else none
  | _, _ => none
theorem xm_seq : IxM X fIxS := by
  refine ⟨_, ix_seq, fun io M H x y vx vy z Q rx ry e q => ?_⟩
  unfold fIxS at e
  split at e
  · obtain ⟨w, e1, rfl⟩ := Option.map_eq_some_iff.mp e
    obtain ⟨a, vs, rfl, ha, r⟩ := rx.lst
    obtain ⟨v, h1, h2⟩ := r.atI e1
    exact .inl ⟨a, vs, _, v, rfl, ry.int, SqL.of ha, h1, q v h2⟩
  · obtain ⟨w, e1, rfl⟩ := Option.map_eq_some_iff.mp e
    obtain ⟨a, vs, rfl, ha, r⟩ := rx.frl
    obtain ⟨v, h1, h2⟩ := r.atI e1
    exact .inl ⟨a, vs, _, v, rfl, ry.int, ha, h1, q v h2⟩
  · obtain ⟨w, e1, rfl⟩ := Option.map_eq_some_iff.mp e
    obtain ⟨a, vs, rfl, ha, r⟩ := rx.tup
    obtain ⟨v, h1, h2⟩ := r.atI e1
    exact .inr (.inl ⟨a, vs, _, v, rfl, ry.int, ha, h1, q v h2⟩)
  · split at e
    · rename_i hz
      obtain ⟨w, e1, rfl⟩ := Option.map_eq_some_iff.mp e
      exact .inr (.inr ⟨_, _, w, rx.str, ry.int, by rw [sz_eq]; exact hz, e1, q _ (.str _)⟩)
    · cases e
  · cases e
def fIxD : W → W → Option OR := fun d k => (dLook d k).bind fun r => r.map .imm
theorem xm_dict (hu : X.A.units + 1 < cLine) : IxM X fIxD := by
  refine ⟨fun x y H Q => ∃ a v, x = .ref a ∧ DGet H a y (some v) ∧ Q v H, ?_, fun io M H x y vx vy z Q rx ry e q => ?_⟩
  · intro value slice pins s σ H x y v u Q I rx ry h hs
    obtain ⟨a, z, rfl, g, q⟩ := h
    cases rx
    exact tail_any (dict_typeIs I g) PySem.F.slot_dict_getitem.lookup (d_getItem hu I g ry fun w' s' I' r => ⟨z, H, I', r, q⟩) hs
  · obtain ⟨r, e1, e2⟩ := Option.bind_eq_some_iff.mp e
    obtain ⟨w, rfl, rfl⟩ := Option.map_eq_some_iff.mp e2
    obtain ⟨a, o, rfl, g, _, h2⟩ := dLook_ok rx ry e1
    obtain ⟨v, rfl, hv⟩ := h2 w rfl
    exact ⟨a, v, rfl, g, q v hv⟩
def fIx : W → W → Option OR := orf fIxS fIxD
theorem xm_ix (hu : X.A.units + 1 < cLine) : IxM X fIx := xm_seq.or (xm_dict hu)
end
section
variable {X : Cx} {ea : EA} {Wx : WX} {a b c : Expr} {ma mb mc : Mo RV} {pos : Pos}
theorem pee_ix {f : W → W → Option OR} (ho : IxM X f) (ha : Pee X ea Wx a ma) (hb : Pee X ea Wx b mb) (hs : PlainIx b := by exact fun _ _ => rfl) : Pee X ea Wx (.Subscript a b pos) (mBin f ma mb) := by
  obtain ⟨ta, pa, ra⟩ := ha.ex
  obtain ⟨tb, pb, rb⟩ := hb.ex
  obtain ⟨r, h1, h2⟩ := ho
  exact ⟨_, pe_ix h1 pa pb hs, ref_op (X := X) (g := fun _ _ => pure .none) h2 ra rb⟩
end
end Z
set_option Elab.async false
set_option linter.all false
set_option maxRecDepth 100000
namespace Z
open PySem PySem.Spec PyProof.Rows L2
section
variable {K : PySem.W.Frag} {mg : Str → Option Value} {ea : EA} {io io' : List Addr} {Fr Fr' : Addr → Prop} {s s' s2 : S} {σ σ' : L2.St} {H H' : Hp} {w : W} {v : V} {c : Cell} {o : HO} {a p : Addr}
def mNil : Mo (List RV) := ret []
def mCons (m : Mo RV) (ms : Mo (List RV)) : Mo (List RV) := bnd m fun x => bnd ms fun xs => ret (settle x :: xs)
def freezeAll : List RV → Mo (List W)
  | [] => ret []
  | x :: xs => bnd (freeze x) fun w => bnd (freezeAll xs) fun ws => ret (w :: ws)
def lookAll : List RV → Mo (List W)
  | [] => ret []
  | x :: xs => bnd (look x) fun w => bnd (lookAll xs) fun ws => ret (w :: ws)
variable {Wx : WX}
theorem ref_nil : RefA K mg ea Wx tNil mNil := by
  intro σ H io Fr s S0 r0 s' e Q hok hex
  cases e
  exact hok _ rfl [] H io ⟨S0, .refl⟩ .nil
theorem ref_cons {te : TE} {m : Mo RV} {ta : TA} {ms : Mo (List RV)} (h : RefE K mg ea Wx te m) (t : RefA K mg ea Wx ta ms) : RefA K mg ea Wx (tCons te ta) (mCons m ms) := by
  intro σ H io Fr s S0 r0 s' e Q hok hex
  rcases bnd_some e with ⟨x, e1, rfl⟩ | ⟨x, s1, e1, e2⟩
  · exact h σ H io Fr s S0 _ _ e1 _ (fun _ q => by cases q) fun x' q cls d H' io' px => by
      cases q
      exact hex _ rfl cls d H' io' px
  · refine h σ H io Fr s S0 _ _ e1 _ (fun x' q vx H1 io1 px => ?_) (fun _ q => by cases q)
    cases q
    obtain ⟨S1, T1, R1⟩ := px.settled
    rcases bnd_some e2 with ⟨y, e3, rfl⟩ | ⟨ys, s2, e3, e4⟩
    · exact t σ H1 io1 Fr s1 S1 _ _ e3 _ (fun _ q => by cases q) fun x' q cls d H' io' py => by
        cases q
        exact hex _ rfl cls d H' io' ⟨py.1, T1.trans py.2.1, py.2.2⟩
    · refine t σ H1 io1 Fr s1 S1 _ _ e3 _ (fun y' q vy H2 io2 py R2 => ?_) (fun _ q => by cases q)
      cases q
      cases e4
      exact hok _ rfl _ H2 io2 ⟨py.1, T1.trans py.2⟩ (.cons (R1.pers py.2.p) R2)
theorem RvR.less {x : RV} {M M' : Addr → Prop} (h : ∀ b, M' b → M b) (r : RvR K mg io M σ H x v) : RvR K mg io M' σ H x v := r.pers (.less h)
theorem paired_mono {α β : Type} {F G : α → β → Prop} (h : ∀ a b, F a b → G a b) {xs : List α} {ys : List β} (p : Paired F xs ys) : Paired G xs ys := Paired.mapP p h
theorem freezeAll_ok : ∀ {xs : List RV} {vs : List V} {s s' : S} {r : Except Ex (List W)}, Sim K mg ea io Fr s σ H → Paired (RvR K mg io (Ms io Fr s σ) σ H) xs vs → freezeAll xs s = some (r, s') →
    s'.G = s.G ∧ (∀ b, Ms io Fr s' σ b → Ms io Fr s σ b) ∧ Sim K mg ea io Fr s' σ H ∧ ∃ ws, r = .ok ws ∧ Rws K mg io (Ms io Fr s' σ) H ws vs
  | [], vs, s, s', r, S0, p, e => by
    cases p
    cases e
    exact ⟨rfl, fun _ z => z, S0, [], rfl, Rws.nil⟩
  | x :: xs, vs, s, s', r, S0, p, e => by
    cases p with
    | cons p1 p2 =>
      rename_i v vs
      rcases bnd_some e with ⟨z, e1, rfl⟩ | ⟨w, s1, e1, e2⟩
      · obtain ⟨_, _, _, _, q, _⟩ := freeze_ok S0 p1 e1
        cases q
      · obtain ⟨g1, m1, S1, w', q, r1⟩ := freeze_ok S0 p1 e1
        cases q
        rcases bnd_some e2 with ⟨z, e3, rfl⟩ | ⟨ws, s2, e3, e4⟩
        · obtain ⟨_, _, _, _, q, _⟩ := freezeAll_ok S1 (paired_mono (fun a b z => z.less m1) p2) e3
          cases q
        · obtain ⟨g2, m2, S2, ws', q, r2⟩ := freezeAll_ok S1 (paired_mono (fun a b z => z.less m1) p2) e3
          cases q
          cases e4
          exact ⟨g2.trans g1, fun b z => m1 b (m2 b z), S2, _, rfl, Rws.cons (r1.pers (.less m2)) r2⟩
theorem lookAll_ok : ∀ {xs : List RV} {vs : List V} {s s' : S} {r : Except Ex (List W)}, Sim K mg ea io Fr s σ H → Paired (RvR K mg io (Ms io Fr s σ) σ H) xs vs → lookAll xs s = some (r, s') →
    s' = s ∧ ∃ ws, r = .ok ws ∧ Paired (Rn K mg io (Ms io Fr s σ) H) ws vs
  | [], vs, s, s', r, S0, p, e => by
    cases p
    cases e
    exact ⟨rfl, [], rfl, .nil⟩
  | x :: xs, vs, s, s', r, S0, p, e => by
    cases p with
    | cons p1 p2 =>
      rename_i v vs
      rcases bnd_some e with ⟨z, e1, rfl⟩ | ⟨w, s1, e1, e2⟩
      · obtain ⟨_, _, q, _⟩ := look_ok S0 p1 e1
        cases q
      · obtain ⟨rfl, w', q, r1⟩ := look_ok S0 p1 e1
        cases q
        rcases bnd_some e2 with ⟨z, e3, rfl⟩ | ⟨ws, s2, e3, e4⟩
        · obtain ⟨_, _, q, _⟩ := lookAll_ok S0 p2 e3
          cases q
        · obtain ⟨rfl, ws', q, r2⟩ := lookAll_ok S0 p2 e3
          cases q
          cases e4
          exact ⟨rfl, _, rfl, .cons r1 r2⟩
theorem arg2 {α : Type} {ta : TA} {ms : Mo (List RV)} (ha : RefA K mg ea Wx ta ms) (S0 : Sim K mg ea io Fr s σ H) {f : List RV → Mo α} {r : Except Ex α} (e : bnd ms f s = some (r, s'))
    (hex : ∀ x, r = .error x → ∀ cls d H' io', PostX K mg ea io Fr s σ H s' σ io' H' x cls d → Wx cls d σ H')
    {R : List V → Hp → Prop} (hR : ∀ xs vs s1 H1 io1, f xs s1 = some (r, s') → PostS K mg ea io Fr s σ H s1 σ io1 H1 → Paired (RvR K mg io1 (Ms io1 Fr s1 σ) σ H1) xs vs → R vs H1) : ta σ H R := by
  rcases bnd_some e with ⟨x, e1, rfl⟩ | ⟨b, s1, e1, e2⟩
  · exact ha σ H io Fr s S0 _ _ e1 _ (fun _ q => by cases q) fun x' q cls d H' io' px => by
      cases q
      exact hex _ rfl cls d H' io' px
  · refine ha σ H io Fr s S0 _ _ e1 _ (fun x' q vs H1 io1 px R1 => ?_) (fun _ q => by cases q)
    cases q
    exact hR _ vs s1 H1 io1 e2 px R1
theorem one2 {α : Type} {ta : TE} {m : Mo RV} (ha : RefE K mg ea Wx ta m) (S0 : Sim K mg ea io Fr s σ H) {f : RV → Mo α} {r : Except Ex α} (e : bnd m f s = some (r, s'))
    (hex : ∀ x, r = .error x → ∀ cls d H' io', PostX K mg ea io Fr s σ H s' σ io' H' x cls d → Wx cls d σ H')
    {R : V → Hp → Prop} (hR : ∀ x v s1 H1 io1, f x s1 = some (r, s') → PostE K mg ea io Fr s σ H s1 io1 H1 x v → R v H1) : ta σ H R := by
  rcases bnd_some e with ⟨x, e1, rfl⟩ | ⟨b, s1, e1, e2⟩
  · exact ha σ H io Fr s S0 _ _ e1 _ (fun _ q => by cases q) fun x' q cls d H' io' px => by
      cases q
      exact hex _ rfl cls d H' io' px
  · refine ha σ H io Fr s S0 _ _ e1 _ (fun x' q v H1 io1 px => ?_) (fun _ q => by cases q)
    cases q
    exact hR _ v s1 H1 io1 e2 px
theorem Stp.lessM {M M' M2 : Addr → Prop} (x : Stp io M Fr H io' M' H') (h : ∀ b, M2 b → M' b) : Stp io M Fr H io' M2 H' := x.less h
def mDisp (k : List W → RV) (ms : Mo (List RV)) : Mo RV := bnd ms fun xs => bnd (freezeAll xs) fun ws => if ws.length ≤ sz then ret (k ws) else stk
def mTup : Mo (List RV) → Mo RV := mDisp fun ws => .val (.tup ws)
def mLst : Mo (List RV) → Mo RV := mDisp fun ws => .own (.lst ws)
theorem ref_tup {ta : TA} {ms : Mo (List RV)} (ha : RefA K mg ea Wx ta ms) : RefE K mg ea Wx (tTup ta) (mTup ms) := by
  intro σ H io Fr s S0 r0 s' e Q hok hex
  refine arg2 ha S0 e hex fun xs vs s1 H1 io1 e2 px R1 => ?_
  rcases bnd_some e2 with ⟨x, e3, rfl⟩ | ⟨ws, s2, e3, e4⟩
  · obtain ⟨_, _, _, _, q, _⟩ := freezeAll_ok px.1 R1 e3
    cases q
  · obtain ⟨g, m, S2, ws', q, r2⟩ := freezeAll_ok px.1 R1 e3
    cases q
    split at e4
    · rename_i hz
      cases e4
      have := OQ.post (z := .newt ws) S2 (px.2.lessM m) fun v H3 io3 q => hok _ rfl v H3 io3 q
      exact ⟨by rw [sz_eq, ← r2.1]; exact hz, fun p hp => this p vs hp r2⟩
    · cases e4
theorem ref_lst {ta : TA} {ms : Mo (List RV)} (ha : RefA K mg ea Wx ta ms) : RefE K mg ea Wx (tLst ta) (mLst ms) := by
  intro σ H io Fr s S0 r0 s' e Q hok hex
  refine arg2 ha S0 e hex fun xs vs s1 H1 io1 e2 px R1 => ?_
  rcases bnd_some e2 with ⟨x, e3, rfl⟩ | ⟨ws, s2, e3, e4⟩
  · obtain ⟨_, _, _, _, q, _⟩ := freezeAll_ok px.1 R1 e3
    cases q
  · obtain ⟨g, m, S2, ws', q, r2⟩ := freezeAll_ok px.1 R1 e3
    cases q
    split at e4
    · rename_i hz
      cases e4
      have := OQ.post (z := .newl ws) S2 (px.2.lessM m) fun v H3 io3 q => hok _ rfl v H3 io3 q
      exact ⟨by rw [sz_eq, ← r2.1]; exact hz, fun p hp => this p vs hp r2⟩
    · cases e4
def CallM (X : Cx) (g : Value) (f : List W → Option OR) : Prop :=
  ∃ r : List V → Hp → VK → Prop, CallR X g r ∧ ∀ io M H ws vs z Q, Paired (Rn X.K X.mg io M H) ws vs → f ws = some z → OQ X.K X.mg io M H z Q → r vs H Q
def mCB (f : List W → Option OR) (ms : Mo (List RV)) : Mo RV := bnd ms fun xs => bnd (lookAll xs) fun ws => liftO (f ws)
theorem ref_cb {ta : TA} {ms : Mo (List RV)} {f : List W → Option OR} {r : List V → Hp → VK → Prop} (hr : ∀ io M H ws vs z Q, Paired (Rn K mg io M H) ws vs → f ws = some z → OQ K mg io M H z Q → r vs H Q)
    (ha : RefA K mg ea Wx ta ms) : RefE K mg ea Wx (tCB r ta) (mCB f ms) := by
  intro σ H io Fr s S0 r0 s' e Q hok hex
  refine arg2 ha S0 e hex fun xs vs s1 H1 io1 e2 px R1 => ?_
  rcases bnd_some e2 with ⟨x, e3, rfl⟩ | ⟨ws, s2, e3, e4⟩
  · obtain ⟨_, _, q, _⟩ := lookAll_ok px.1 R1 e3
    cases q
  · obtain ⟨rfl, ws', q, r2⟩ := lookAll_ok px.1 R1 e3
    cases q
    obtain ⟨rfl, u, hu, rfl⟩ := liftO_some e4
    exact hr _ _ _ _ _ _ _ r2 hu (OQ.post px.1 px.2 fun v H3 io3 q => hok _ rfl v H3 io3 q)
def or1 {α γ : Type} (f g : α → Option γ) : α → Option γ := fun x => match f x with
  | some z => some z
  | none => g x
theorem CallR.or {X : Cx} {f : Value} {r r' : List V → Hp → VK → Prop} (h : CallR X f r) (h' : CallR X f r') : CallR X f (fun xs H Q => r xs H Q ∨ r' xs H Q) := by
  intro pins s σ H xs us Q I rr q
  rcases q with q | q
  · exact h pins s σ H xs us Q I rr q
  · exact h' pins s σ H xs us Q I rr q
theorem CallM.or {X : Cx} {g : Value} {f f' : List W → Option OR} (h : CallM X g f) (h' : CallM X g f') : CallM X g (or1 f f') := by
  obtain ⟨r, a, b⟩ := h
  obtain ⟨r', a', b'⟩ := h'
  refine ⟨_, CallR.or a a', fun io M H ws vs z Q rx e q => ?_⟩
  unfold or1 at e
  cases k : f ws with
  | some z' =>
    rw [k] at e
    cases e
    exact .inl (b io M H ws vs z Q rx k q)
  | none =>
    rw [k] at e
    exact .inr (b' io M H ws vs z Q rx e q)
theorem p1 {α β : Type} {F : α → β → Prop} {x : α} {ys : List β} (h : Paired F [x] ys) : ∃ y, ys = [y] ∧ F x y := by
  cases h with
  | cons h t => cases t; exact ⟨_, rfl, h⟩
theorem p2 {α β : Type} {F : α → β → Prop} {x x' : α} {ys : List β} (h : Paired F [x, x'] ys) : ∃ y y', ys = [y, y'] ∧ F x y ∧ F x' y' := by
  cases h with
  | cons h t =>
    cases t with
    | cons h' t => cases t; exact ⟨_, _, rfl, h, h'⟩
end
section
variable {X : Cx}
def fLen : List W → Option OR
  | [w] => match seqOf w with
    | some ws => some (.imm (.int (ws.length : Nat)))
    | none => match w with
      | .str x => if x.length ≤ sz then some (.imm (.int (x.length : Nat))) else none
      | .byt x => if x.size ≤ sz then some (.imm (.int (x.size : Nat))) else none
      | _ => none
  | _ => none
theorem cm_len : CallM X (.builtin "len") fLen := by
  refine ⟨_, call_len, fun io M H ws vs z Q rx e q => ?_⟩
  unfold fLen at e
  split at e
  · rename_i w
    obtain ⟨v, rfl, r⟩ := p1 rx
    split at e
    · rename_i ws hs
      cases e
      obtain ⟨a, us, rfl, h, r2⟩ := r.seq (seqOf_some hs)
      refine ⟨_, us.length, rfl, h.imp (fun h => ⟨us, h, rfl⟩) (fun h => ⟨us, h, rfl⟩), ?_⟩
      rw [← r2.1]
      exact q _ (.int _)
    · split at e
      · split at e
        · rename_i hz
          cases e
          have := r.str
          subst this
          exact ⟨_, _, rfl, ⟨by rw [sz_eq]; exact hz, rfl⟩, q _ (.int _)⟩
        · cases e
      · split at e
        · rename_i hz
          cases e
          have := r.byt
          subst this
          exact ⟨_, _, rfl, ⟨by rw [sz_eq]; exact hz, rfl⟩, q _ (.int _)⟩
        · cases e
      · cases e
  · cases e
def fList : List W → Option OR
  | [w] => (seqOf w).map .newl
  | _ => none
theorem cm_list : CallM X (.type "list") fList := by
  refine ⟨_, call_list_of, fun io M H ws vs z Q rx e q => ?_⟩
  unfold fList at e
  split at e
  · obtain ⟨v, rfl, r⟩ := p1 rx
    obtain ⟨ws, hs, rfl⟩ := Option.map_eq_some_iff.mp e
    obtain ⟨a, us, rfl, h, r2⟩ := r.seq (seqOf_some hs)
    exact ⟨a, us, rfl, h, fun l hl => q l us hl r2⟩
  · cases e
def fTuple : List W → Option OR
  | [.lst ws] => some (.newt ws)
  | [.frl ws] => some (.newt ws)
  | [.tup ws] => some (.imm (.tup ws))
  | _ => none
theorem cm_tuple : CallM X (.type "tuple") fTuple := by
  refine ⟨_, call_tuple_of, fun io M H ws vs z Q rx e q => ?_⟩
  unfold fTuple at e
  split at e
  · obtain ⟨v, rfl, r⟩ := p1 rx
    cases e
    obtain ⟨a, us, rfl, h, r2⟩ := r.lst
    exact ⟨a, us, rfl, .inl ⟨SqL.of h, fun l hl => q l us hl r2⟩⟩
  · obtain ⟨v, rfl, r⟩ := p1 rx
    cases e
    obtain ⟨a, us, rfl, h, r2⟩ := r.frl
    exact ⟨a, us, rfl, .inl ⟨h, fun l hl => q l us hl r2⟩⟩
  · obtain ⟨v, rfl, r⟩ := p1 rx
    cases e
    have rw := r.tupRw
    obtain ⟨a, us, rfl, h, r2⟩ := r.tup
    exact ⟨a, us, rfl, .inr ⟨h, q _ rw⟩⟩
  · cases e
def fInt1 : List W → Option OR
  | [.int i] => some (.imm (.int i))
  | [.bl b] => some (.imm (.int (if b then 1 else 0)))
  | _ => none
theorem cm_int : CallM X (.type "int") fInt1 := by
  refine ⟨_, call_int1, fun io M H ws vs z Q rx e q => ?_⟩
  unfold fInt1 at e
  split at e
  · obtain ⟨v, rfl, r⟩ := p1 rx
    cases e
    have := r.int
    subst this
    exact .inl ⟨_, rfl, q _ (.int _)⟩
  · obtain ⟨v, rfl, r⟩ := p1 rx
    cases e
    have := r.bl
    subst this
    exact .inr ⟨_, rfl, q _ (.int _)⟩
  · cases e
def blsOf : List W → Option (List Bool)
  | [] => some []
  | .bl b :: ws => (blsOf ws).map (b :: ·)
  | _ => none
def intsOf : List W → Option (List Int)
  | [] => some []
  | .int b :: ws => (intsOf ws).map (b :: ·)
  | _ => none
theorem blsOf_ok {K : PySem.W.Frag} {mg : Str → Option Value} {io : List Addr} {M : Addr → Prop} {H : Hp} : ∀ {ws : List W} {vs : List V} {bs : List Bool}, Rws K mg io M H ws vs → blsOf ws = some bs → vs = bs.map V.bl
  | [], vs, bs, h, e => by
    rw [h.nil_inv]
    simp only [blsOf, Option.some.injEq] at e
    subst e
    rfl
  | w :: ws, vs, bs, h, e => by
    obtain ⟨v, r, rfl, h1, h2⟩ := h.cons_inv
    cases w <;> simp only [blsOf, Option.map_eq_some_iff, reduceCtorEq] at e
    obtain ⟨bs', e1, rfl⟩ := e
    cases h1
    rw [blsOf_ok h2 e1]
    rfl
theorem intsOf_ok {K : PySem.W.Frag} {mg : Str → Option Value} {io : List Addr} {M : Addr → Prop} {H : Hp} : ∀ {ws : List W} {vs : List V} {bs : List Int}, Rws K mg io M H ws vs → intsOf ws = some bs → vs = bs.map V.int
  | [], vs, bs, h, e => by
    rw [h.nil_inv]
    simp only [intsOf, Option.some.injEq] at e
    subst e
    rfl
  | w :: ws, vs, bs, h, e => by
    obtain ⟨v, r, rfl, h1, h2⟩ := h.cons_inv
    cases w <;> simp only [intsOf, Option.map_eq_some_iff, reduceCtorEq] at e
    obtain ⟨bs', e1, rfl⟩ := e
    cases h1
    rw [intsOf_ok h2 e1]
    rfl
def fAll : List W → Option OR
  | [.lst ws] => (blsOf ws).map fun bs => .imm (.bl (bs.all id))
  | _ => none
theorem cm_all (hc : X.calm = true := by rfl) : CallM X (.builtin "all") fAll := by
  refine ⟨_, cr_all hc, fun io M H ws vs z Q rx e q => ?_⟩
  unfold fAll at e
  split at e
  · obtain ⟨v, rfl, r⟩ := p1 rx
    obtain ⟨bs, e1, rfl⟩ := Option.map_eq_some_iff.mp e
    obtain ⟨a, us, rfl, h, r2⟩ := r.lst
    have := blsOf_ok r2 e1
    subst this
    exact ⟨a, bs, rfl, SqL.of h, q _ (.bl _)⟩
  · cases e
def fSum : List W → Option OR
  | [.lst ws] => (intsOf ws).map fun bs => .imm (.int bs.sum)
  | _ => none
theorem cm_sum (hc : X.calm = true := by rfl) : CallM X (.builtin "sum") fSum := by
  refine ⟨_, cr_sum hc, fun io M H ws vs z Q rx e q => ?_⟩
  unfold fSum at e
  split at e
  · obtain ⟨v, rfl, r⟩ := p1 rx
    obtain ⟨bs, e1, rfl⟩ := Option.map_eq_some_iff.mp e
    obtain ⟨a, us, rfl, h, r2⟩ := r.lst
    have := intsOf_ok r2 e1
    subst this
    exact ⟨a, bs, rfl, SqL.of h, q _ (.int _)⟩
  · cases e
end
section
variable {X : Cx} {ea : EA} {Wx : WX} {e : Expr} {es : List Expr} {m : Mo RV} {ms : Mo (List RV)} {pos p : Pos}
theorem pea_nil : Pea X ea Wx [] mNil := ⟨_, pa_nil, ref_nil⟩
theorem pea_cons (ha : Pee X ea Wx e m) (hr : Pea X ea Wx es ms) (hs : starEach (e :: es) X.env = (false, eval e X.env) :: starEach es X.env := by rfl) : Pea X ea Wx (e :: es) (mCons m ms) :=
  let ⟨_, p, r⟩ := ha.ex; let ⟨_, p', r'⟩ := hr.ex; ⟨_, pa_cons p p' hs, ref_cons r r'⟩
theorem pee_tup {x1} (h : Pea X ea Wx es ms) : Pee X ea Wx (.Tuple es x1 pos) (mTup ms) := let ⟨_, p, r⟩ := h.ex; ⟨_, pe_tup p, ref_tup r⟩
theorem pee_lst (h : Pea X ea Wx es ms) : Pee X ea Wx (.List es pos) (mLst ms) := let ⟨_, p, r⟩ := h.ex; ⟨_, pe_lst p, ref_lst r⟩
theorem pee_cb {f : List W → Option OR} {id : String} {x : Str} (hc : CallM X (.builtin id) f) (hm : X.mg x = none) (ha : Pea X ea Wx (e :: es) ms) (hg : Gl X x := by rfl) (hv : bootBuiltins x = some (.builtin id) := by decide +kernel) (hn : x ≠ "__name__" := by decide) (hdb : (x == ("__debug__" : Str)) = false := by decide)
    (he : starEach (e :: es) X.env = (false, eval e X.env) :: starEach es X.env := by rfl) (hpl : (backTo pos (starEach es X.env)).any (·.1) = false := by rfl) : Pee X ea Wx (.Call (.Name x p) (e :: es) [] pos) (mCB f ms) :=
  let ⟨_, p, r⟩ := ha.ex; let ⟨_, h1, h2⟩ := hc; ⟨_, pe_callB h1 hg hm hv p hn hdb he hpl, ref_cb h2 r⟩
theorem pee_ct {f : List W → Option OR} {T : String} {x : Str} (hc : CallM X (.type T) f) (hm : X.mg x = none) (ha : Pea X ea Wx (e :: es) ms) (hg : Gl X x := by rfl) (hv : bootBuiltins x = some (.type T) := by decide +kernel) (hn : x ≠ "__name__" := by decide) (hdb : (x == ("__debug__" : Str)) = false := by decide)
    (he : starEach (e :: es) X.env = (false, eval e X.env) :: starEach es X.env := by rfl) (hpl : (backTo pos (starEach es X.env)).any (·.1) = false := by rfl) : Pee X ea Wx (.Call (.Name x p) (e :: es) [] pos) (mCB f ms) :=
  let ⟨_, p, r⟩ := ha.ex; let ⟨_, h1, h2⟩ := hc; ⟨_, pe_callTy h1 hg hm hv p hn hdb he hpl, ref_cb h2 r⟩
end
end Z
set_option Elab.async false
set_option linter.all false
set_option maxRecDepth 100000
namespace Z
open PySem PySem.Spec PyProof.Rows L2
section
variable {K : PySem.W.Frag} {mg : Str → Option Value} {ea : EA} {io io' : List Addr} {Fr Fr' : Addr → Prop} {s s' s2 : S} {σ σ' : L2.St} {H H' : Hp} {w : W} {v : V} {c : Cell} {o : HO} {a p : Addr}
theorem Sim.sub {r' : List SV} (x : Sim K mg ea io Fr s σ H) (hl : r'.length = σ'.length) (h : ∀ i : Nat, (r'[i]? = s.r[i]? ∧ σ'[i]? = σ[i]?) ∨ r'[i]? = some .non ∨ r'[i]? = none) : Sim K mg ea io Fr { s with r := r' } σ' H ∧ (∀ b, Ms io Fr { s with r := r' } σ' b → Ms io Fr s σ b) := by
  have fo : ∀ b, FrO Fr r' σ' b → FrO Fr s.r σ b := fun b z => z.imp id fun ⟨i, c, h1, h2⟩ => by
    rcases h i with ⟨q1, q2⟩ | q | q
    · exact ⟨i, c, by rw [← q1]; exact h1, by rw [← q2]; exact h2⟩
    · rw [h1] at q; cases q
    · rw [h1] at q; cases q
  have le : ∀ b, Ms io Fr { s with r := r' } σ' b → Ms io Fr s σ b := fun b z => z.imp id (fo b)
  refine ⟨⟨hl, x.g.less fo, fun i w e => ?_, fun i c e => ?_, fun i j c d b e1 e2 e3 e4 => ?_, fun i y e => ?_⟩, le⟩
  · rcases h i with ⟨q1, q2⟩ | q | q
    · obtain ⟨v, h1, h2⟩ := x.val i w (by rw [← q1]; exact e)
      exact ⟨v, by rw [q2]; exact h1, h2.pers (.less le)⟩
    · rw [show r'[i]? = some (.val w) from e] at q; cases q
    · rw [show r'[i]? = some (.val w) from e] at q; cases q
  · rcases h i with ⟨q1, q2⟩ | q | q
    · obtain ⟨b, o, h1, h2, h3, h4⟩ := x.own i c (by rw [← q1]; exact e)
      exact ⟨b, o, by rw [q2]; exact h1, h2, h3.pers (.less le), h4⟩
    · rw [show r'[i]? = some (.own c) from e] at q; cases q
    · rw [show r'[i]? = some (.own c) from e] at q; cases q
  · rcases h i with ⟨q1, q2⟩ | q | q
    · rcases h j with ⟨q3, q4⟩ | q | q
      · exact x.dist i j c d b (by rw [← q1]; exact e1) (by rw [← q3]; exact e2) (by rw [← q2]; exact e3) (by rw [← q4]; exact e4)
      · rw [show r'[j]? = some (.own d) from e2] at q; cases q
      · rw [show r'[j]? = some (.own d) from e2] at q; cases q
    · rw [show r'[i]? = some (.own c) from e1] at q; cases q
    · rw [show r'[i]? = some (.own c) from e1] at q; cases q
  · rcases h i with ⟨q1, q2⟩ | q | q
    · obtain ⟨h1, h2⟩ := x.exc i y (by rw [← q1]; exact e)
      exact ⟨by rw [q2]; exact h1, h2.pers (.less le)⟩
    · rw [show r'[i]? = some (.exc y) from e] at q; cases q
    · rw [show r'[i]? = some (.exc y) from e] at q; cases q
theorem Sim.setVal {i : Nat} (x : Sim K mg ea io Fr s σ H) (h : Rw K mg io (Ms io Fr s σ) H w v) : Sim K mg ea io Fr { s with r := s.r.set i (.val w) } (σ.set i (some v)) H ∧ (∀ b, Ms io Fr { s with r := s.r.set i (.val w) } (σ.set i (some v)) b → Ms io Fr s σ b) := by
  have fo : ∀ b, FrO Fr (s.r.set i (.val w)) (σ.set i (some v)) b → FrO Fr s.r σ b := fun b z => z.imp id fun ⟨j, c, h1, h2⟩ => by
    by_cases e : i = j
    · subst e
      have := get_lt h1
      rw [List.getElem?_set_self (by simpa using this)] at h1
      cases h1
    · rw [List.getElem?_set_ne e] at h1 h2
      exact ⟨j, c, h1, h2⟩
  have le : ∀ b, Ms io Fr { s with r := s.r.set i (.val w) } (σ.set i (some v)) b → Ms io Fr s σ b := fun b z => z.imp id (fo b)
  refine ⟨⟨by simp [x.len], x.g.less fo, fun j u e => ?_, fun j c e => ?_, fun j k c d b e1 e2 e3 e4 => ?_, fun j y e => ?_⟩, le⟩
  · by_cases ij : i = j
    · subst ij
      have hi := get_lt e
      simp only [List.length_set] at hi
      rw [List.getElem?_set_self hi] at e
      cases e
      exact ⟨v, List.getElem?_set_self (by rw [← x.len]; exact hi), h.pers (.less le)⟩
    · rw [List.getElem?_set_ne ij] at e
      obtain ⟨y, h1, h2⟩ := x.val j u e
      exact ⟨y, by rw [List.getElem?_set_ne ij]; exact h1, h2.pers (.less le)⟩
  · by_cases ij : i = j
    · subst ij
      have hi := get_lt e
      simp only [List.length_set] at hi
      rw [List.getElem?_set_self hi] at e
      cases e
    · rw [List.getElem?_set_ne ij] at e
      obtain ⟨b, o, h1, h2, h3, h4⟩ := x.own j c e
      exact ⟨b, o, by rw [List.getElem?_set_ne ij]; exact h1, h2, h3.pers (.less le), h4⟩
  · by_cases ij : i = j
    · subst ij
      have hi := get_lt e1
      simp only [List.length_set] at hi
      rw [List.getElem?_set_self hi] at e1
      cases e1
    · by_cases ik : i = k
      · subst ik
        have hi := get_lt e2
        simp only [List.length_set] at hi
        rw [List.getElem?_set_self hi] at e2
        cases e2
      · rw [List.getElem?_set_ne ij] at e1 e3
        rw [List.getElem?_set_ne ik] at e2 e4
        exact x.dist j k c d b e1 e2 e3 e4
  · by_cases ij : i = j
    · subst ij
      have hi := get_lt e
      simp only [List.length_set] at hi
      rw [List.getElem?_set_self hi] at e
      cases e
    · rw [List.getElem?_set_ne ij] at e ⊢
      obtain ⟨h1, h2⟩ := x.exc j y e
      exact ⟨h1, h2.pers (.less le)⟩
theorem Sim.setOwn {i : Nat} (x : Sim K mg ea io (pls Fr a) s σ H) (ha : H a = some o) (nf : ¬ FrO Fr s.r σ a) (h : Rc K mg io (Ms io (pls Fr a) s σ) H c o) :
    Sim K mg ea io Fr { s with r := s.r.set i (.own c) } (σ.set i (some (V.ref a))) H ∧ (∀ b, Ms io Fr { s with r := s.r.set i (.own c) } (σ.set i (some (V.ref a))) b → Ms io (pls Fr a) s σ b) := by
  have fo : ∀ b, FrO Fr (s.r.set i (.own c)) (σ.set i (some (V.ref a))) b → FrO (pls Fr a) s.r σ b := fun b z => by
    rcases z with z | ⟨j, d, h1, h2⟩
    · exact .inl (.inl z)
    · by_cases e : i = j
      · subst e
        have hi := get_lt h2
        simp only [List.length_set] at hi
        rw [List.getElem?_set_self hi] at h2
        cases h2
        exact .inl (.inr rfl)
      · rw [List.getElem?_set_ne e] at h1 h2
        exact .inr ⟨j, d, h1, h2⟩
  have le : ∀ b, Ms io Fr { s with r := s.r.set i (.own c) } (σ.set i (some (V.ref a))) b → Ms io (pls Fr a) s σ b := fun b z => z.imp id (fo b)
  have nF : ¬ Fr a := fun z => nf (.inl z)
  have nO : ∀ (j : Nat) d, s.r[j]? = some (.own d) → σ[j]? = some (some (V.ref a)) → False := fun j d h1 h2 => nf (.inr ⟨j, d, h1, h2⟩)
  refine ⟨⟨by simp [x.len], x.g.less fo, fun j u e => ?_, fun j d e => ?_, fun j k d d' b e1 e2 e3 e4 => ?_, fun j y e => ?_⟩, le⟩
  · by_cases ij : i = j
    · subst ij
      have hi := get_lt e
      simp only [List.length_set] at hi
      rw [List.getElem?_set_self hi] at e
      cases e
    · rw [List.getElem?_set_ne ij] at e
      obtain ⟨y, h1, h2⟩ := x.val j u e
      exact ⟨y, by rw [List.getElem?_set_ne ij]; exact h1, h2.pers (.less le)⟩
  · by_cases ij : i = j
    · subst ij
      have hi := get_lt e
      simp only [List.length_set] at hi
      rw [List.getElem?_set_self hi] at e
      cases e
      exact ⟨a, o, List.getElem?_set_self (by rw [← x.len]; exact hi), ha, h.pers (.less le), nF⟩
    · rw [List.getElem?_set_ne ij] at e
      obtain ⟨b, o, h1, h2, h3, h4⟩ := x.own j d e
      exact ⟨b, o, by rw [List.getElem?_set_ne ij]; exact h1, h2, h3.pers (.less le), fun z => h4 (.inl z)⟩
  · by_cases ij : i = j
    · subst ij
      by_cases ik : i = k
      · exact ik
      · have hi := get_lt e3
        simp only [List.length_set] at hi
        rw [List.getElem?_set_self hi] at e3
        cases e3
        rw [List.getElem?_set_ne ik] at e2 e4
        exact (nO k d' e2 e4).elim
    · by_cases ik : i = k
      · subst ik
        have hi := get_lt e4
        simp only [List.length_set] at hi
        rw [List.getElem?_set_self hi] at e4
        cases e4
        rw [List.getElem?_set_ne ij] at e1 e3
        exact (nO j d e1 e3).elim
      · rw [List.getElem?_set_ne ij] at e1 e3
        rw [List.getElem?_set_ne ik] at e2 e4
        exact x.dist j k d d' b e1 e2 e3 e4
  · by_cases ij : i = j
    · subst ij
      have hi := get_lt e
      simp only [List.length_set] at hi
      rw [List.getElem?_set_self hi] at e
      cases e
    · rw [List.getElem?_set_ne ij] at e ⊢
      obtain ⟨h1, h2⟩ := x.exc j y e
      exact ⟨h1, h2.pers (.less le)⟩
def setM (i : Nat) (x : SV) : Mo Fl := fun s => some (.ok .nx, { s with r := s.r.set i x })
def land : RV → Mo SV
  | .val w => ret (.val w)
  | .own c => ret (.own c)
  | .hnd j => bnd (freeze (.hnd j)) fun w => ret (.val w)
def mAsg (i : Nat) (m : Mo RV) : Mo Fl := bnd m fun x => bnd (land x) fun y => setM i y
variable {Wx : WX}
theorem PostF.trans {M M1 : Addr → Prop} {G' : List Cell} {io1 : List Addr} {H1 : Hp} {f : FV} (T : Stp io M Fr H io1 M1 H1) (p : PostF K mg io1 M1 Fr H1 G' io' H' f v) : PostF K mg io M Fr H G' io' H' f v := by
  cases f with
  | val w => exact ⟨p.1, T.trans p.2.1, p.2.2⟩
  | own c =>
    obtain ⟨a, o, h1, h2, h3, h4, h5, h6⟩ := p
    exact ⟨a, o, h1, h2, h3, h4, T.trans h5, h6⟩
theorem ref_asg {te : TE} {m : Mo RV} (i : Nat) (h : RefE K mg ea Wx te m) : RefS K mg ea Wx (tAsg te (gName i)) (mAsg i m) := by
  intro σ H io Fr s S0 r0 s' e D hnx hbk hct hrt hex
  refine one2 h S0 e (fun x q cls d H' io' px => hex x q cls d σ H' io' px) fun x v s1 H1 io1 e2 px => ?_
  cases x with
  | val w =>
    obtain ⟨S1, T1, R1⟩ := px
    obtain ⟨S2, l2⟩ := S1.setVal (i := i) R1
    cases e2
    exact hnx rfl _ _ _ ⟨S2, T1.less l2⟩
  | own c =>
    obtain ⟨a, o, rfl, ha, nf, S1, T1, R1⟩ := px
    obtain ⟨S2, l2⟩ := S1.setOwn (i := i) ha nf R1
    cases e2
    exact hnx rfl _ _ _ ⟨S2, T1.less l2⟩
  | hnd j =>
    obtain ⟨S1, T1, R1⟩ := px
    rcases bnd_some e2 with ⟨z, e3, rfl⟩ | ⟨y, s3, e3, e4⟩
    · rcases bnd_some e3 with ⟨z', e5, _⟩ | ⟨w', s5, e5, e6⟩
      · obtain ⟨_, _, _, _, q, _⟩ := freeze_ok S1 (x := .hnd j) (v := v) R1 e5
        cases q
      · cases e6
    · rcases bnd_some e3 with ⟨z', e5, q⟩ | ⟨w', s5, e5, e6⟩
      · cases q
      · obtain ⟨g, l, S5, w2, q, R5⟩ := freeze_ok S1 (x := .hnd j) (v := v) R1 e5
        cases q
        cases e6
        obtain ⟨S2, l2⟩ := S5.setVal (i := i) R5
        cases e4
        exact hnx rfl _ _ _ ⟨S2, T1.less fun b z => l b (l2 b z)⟩
def mSeq (a b : Mo Fl) : Mo Fl := bnd a fun f => match f with
  | .nx => b
  | f => ret f
def mNext : Mo Fl := ret .nx
theorem ref_next : RefS K mg ea Wx tNext mNext := by
  intro σ H io Fr s S0 r0 s' e D hnx hbk hct hrt hex
  cases e
  exact hnx rfl _ _ _ ⟨S0, .refl⟩
theorem ref_seq {t u : TS} {a b : Mo Fl} (h : RefS K mg ea Wx t a) (h' : RefS K mg ea Wx u b) : RefS K mg ea Wx (tSeq t u) (mSeq a b) := by
  intro σ H io Fr s S0 r0 s' e D hnx hbk hct hrt hex
  rcases bnd_some e with ⟨x, e1, rfl⟩ | ⟨f, s1, e1, e2⟩
  · exact h σ H io Fr s S0 _ _ e1 _ (fun q => by cases q) (fun q => by cases q) (fun q => by cases q) (fun _ q => by cases q) fun x' q cls d σ' H' io' px => by
      cases q
      exact hex _ rfl cls d σ' H' io' px
  · cases f with
    | nx =>
      refine h σ H io Fr s S0 _ _ e1 _ (fun q σ1 H1 io1 px => ?_) (fun q => by cases q) (fun q => by cases q) (fun _ q => by cases q) (fun _ q => by cases q)
      exact h' σ1 H1 io1 Fr s1 px.1 _ _ e2 D (fun q σ2 H2 io2 py => hnx q σ2 H2 io2 ⟨py.1, px.2.trans py.2⟩) (fun q σ2 H2 io2 py => hbk q σ2 H2 io2 ⟨py.1, px.2.trans py.2⟩) (fun q σ2 H2 io2 py => hct q σ2 H2 io2 ⟨py.1, px.2.trans py.2⟩)
        (fun f q v H2 io2 py => hrt f q v H2 io2 (py.trans px.2)) fun x q cls d σ2 H2 io2 py => hex x q cls d σ2 H2 io2 ⟨py.1, px.2.trans py.2.1, py.2.2⟩
    | bk =>
      cases e2
      exact h σ H io Fr s S0 _ _ e1 _ (fun q => by cases q) hbk (fun q => by cases q) (fun _ q => by cases q) (fun _ q => by cases q)
    | ct =>
      cases e2
      exact h σ H io Fr s S0 _ _ e1 _ (fun q => by cases q) (fun q => by cases q) hct (fun _ q => by cases q) (fun _ q => by cases q)
    | rt f =>
      cases e2
      exact h σ H io Fr s S0 _ _ e1 _ (fun q => by cases q) (fun q => by cases q) (fun q => by cases q) hrt (fun _ q => by cases q)
def mDrop (m : Mo RV) : Mo Fl := bnd m fun _ => ret .nx
theorem ref_drop {te : TE} {m : Mo RV} (h : RefE K mg ea Wx te m) : RefS K mg ea Wx (tDrop te) (mDrop m) := by
  intro σ H io Fr s S0 r0 s' e D hnx hbk hct hrt hex
  refine one2 h S0 e (fun x q cls d H' io' px => hex x q cls d σ H' io' px) fun x v s1 H1 io1 e2 px => ?_
  cases e2
  obtain ⟨S1, T1, _⟩ := px.settled
  exact hnx rfl _ _ _ ⟨S1, T1⟩
def retM : RV → Mo Fl
  | .val w => ret (.rt (.val w))
  | .own c => ret (.rt (.own c))
  | .hnd i => fun s => match s.r[i]? with
    | some (.own c) => some (.ok (.rt (.own c)), s)
    | some (.val w) => some (.ok (.rt (.val w)), s)
    | _ => none
def mRet (m : Mo RV) : Mo Fl := bnd m retM
theorem PostF.ofVal (S1 : Sim K mg ea io' Fr s2 σ H') {M : Addr → Prop} (T : Stp io M Fr H io' (Ms io' Fr s2 σ) H') (R : Rw K mg io' (Ms io' Fr s2 σ) H' w v) : PostF K mg io M Fr H s2.G io' H' (.val w) v := by
  have le : ∀ b, Mu io' Fr b → Ms io' Fr s2 σ b := fun b z => z.imp id .inl
  exact ⟨S1.g.less (s := s2) fun b z => .inl z, T.less le, R.pers (.less le)⟩
theorem ref_ret {te : TE} {m : Mo RV} (h : RefE K mg ea Wx te m) : RefS K mg ea Wx (tRet te) (mRet m) := by
  intro σ H io Fr s S0 r0 s' e D hnx hbk hct hrt hex
  refine one2 h S0 e (fun x q cls d H' io' px => hex x q cls d σ H' io' px) fun x v s1 H1 io1 e2 px => ?_
  cases x with
  | val w =>
    obtain ⟨S1, T1, R1⟩ := px
    cases e2
    exact hrt _ rfl _ _ _ (.ofVal S1 T1 R1)
  | own c =>
    obtain ⟨a, o, rfl, ha, nf, S1, T1, R1⟩ := px
    have le : ∀ b, Mu io1 (pls Fr a) b → Ms io1 (pls Fr a) s1 σ b := fun b z => z.imp id .inl
    have g1 := S1.g.less (s := s1) (Fr' := pls Fr a) fun b z => .inl z
    have T2 := T1.less le
    have R2 := R1.pers (.less le)
    cases e2
    exact hrt _ rfl _ _ _ ⟨a, o, rfl, ha, fun z => nf (.inl z), g1, T2, R2⟩
  | hnd i =>
    obtain ⟨S1, T1, R1⟩ := px
    simp only [retM] at e2
    split at e2
    · rename_i c q
      obtain ⟨a, o, q1, q2, q3, q4⟩ := S1.own i c q
      rw [R1] at q1
      cases q1
      have fo : ∀ b, pls Fr a b → FrO Fr s1.r σ b := fun b z => by
        rcases z with z | z
        · exact .inl z
        · exact .inr ⟨i, c, q, by rw [z]; exact R1⟩
      have le : ∀ b, Mu io1 (pls Fr a) b → Ms io1 Fr s1 σ b := fun b z => z.imp id (fo b)
      have g1 := S1.g.less (s := s1) fo
      have T2 := T1.less le
      have R2 := q3.pers (.less le)
      cases e2
      exact hrt _ rfl _ _ _ ⟨a, o, rfl, q2, q4, g1, T2, R2⟩
    · rename_i w q
      obtain ⟨u, q1, q2⟩ := S1.val i w q
      rw [R1] at q1
      cases q1
      cases e2
      exact hrt _ rfl _ _ _ (.ofVal S1 T1 q2)
    · cases e2
def mIf (c : Mo Bool) (a b : Mo Fl) : Mo Fl := bnd c fun x => if x = true then a else b
theorem ref_if {c : TT} {mc : Mo Bool} {t u : TS} {a b : Mo Fl} (hc : RefT K mg ea Wx c mc) (h : RefS K mg ea Wx t a) (h' : RefS K mg ea Wx u b) : RefS K mg ea Wx (tIfS c t u) (mIf mc a b) := by
  intro σ H io Fr s S0 r0 s' e D hnx hbk hct hrt hex
  refine tst2 hc S0 e (fun x q cls d H' io' px => hex x q cls d σ H' io' px) fun k s1 H1 io1 e2 px => ?_
  have go : ∀ {t : TS} {a : Mo Fl}, RefS K mg ea Wx t a → a s1 = some (r0, s') → t D σ H1 := fun {t a} h e2 =>
    h σ H1 io1 Fr s1 px.1 _ _ e2 D (fun q σ2 H2 io2 py => hnx q σ2 H2 io2 ⟨py.1, px.2.trans py.2⟩) (fun q σ2 H2 io2 py => hbk q σ2 H2 io2 ⟨py.1, px.2.trans py.2⟩) (fun q σ2 H2 io2 py => hct q σ2 H2 io2 ⟨py.1, px.2.trans py.2⟩)
        (fun f q v H2 io2 py => hrt f q v H2 io2 (py.trans px.2)) fun x q cls d σ2 H2 io2 py => hex x q cls d σ2 H2 io2 ⟨py.1, px.2.trans py.2.1, py.2.2⟩
  cases k with
  | true => exact go h e2
  | false => exact go h' e2
def mIfE (c : Mo Bool) (a b : Mo RV) : Mo RV := bnd c fun x => if x = true then a else b
theorem PostE.trans {io1 : List Addr} {H1 : Hp} {s1 : S} {x : RV} (T : Stp io (Ms io Fr s σ) Fr H io1 (Ms io1 Fr s1 σ) H1) (p : PostE K mg ea io1 Fr s1 σ H1 s' io' H' x v) : PostE K mg ea io Fr s σ H s' io' H' x v := by
  cases x with
  | val w => exact ⟨p.1, T.trans p.2.1, p.2.2⟩
  | hnd i => exact ⟨p.1, T.trans p.2.1, p.2.2⟩
  | own c =>
    obtain ⟨a, o, h1, h2, h3, h4, h5, h6⟩ := p
    exact ⟨a, o, h1, h2, h3, h4, T.trans h5, h6⟩
theorem ref_ife {c : TT} {mc : Mo Bool} {t u : TE} {a b : Mo RV} (hc : RefT K mg ea Wx c mc) (h : RefE K mg ea Wx t a) (h' : RefE K mg ea Wx u b) : RefE K mg ea Wx (tIf c t u) (mIfE mc a b) := by
  intro σ H io Fr s S0 r0 s' e Q hok hex
  refine tst2 hc S0 e hex fun k s1 H1 io1 e2 px => ?_
  cases k with
  | true => exact h σ H1 io1 Fr s1 px.1 _ _ e2 Q (fun x q v H2 io2 py => hok x q v H2 io2 (py.trans px.2)) fun x q cls d H2 io2 py => hex x q cls d H2 io2 ⟨py.1, px.2.trans py.2.1, py.2.2⟩
  | false => exact h' σ H1 io1 Fr s1 px.1 _ _ e2 Q (fun x q v H2 io2 py => hok x q v H2 io2 (py.trans px.2)) fun x q cls d H2 io2 py => hex x q cls d H2 io2 ⟨py.1, px.2.trans py.2.1, py.2.2⟩
def mAndV (a b : Mo RV) : Mo RV := bnd (mB a) fun x => if x = true then b else ret (.val (.bl false))
def mNotV (a : Mo RV) : Mo RV := bnd (mB a) fun x => ret (.val (.bl (!x)))
theorem ref_andV {t u : TE} {a b : Mo RV} (h : RefE K mg ea Wx t a) (h' : RefE K mg ea Wx u b) : RefE K mg ea Wx (tAndV t u) (mAndV a b) := by
  intro σ H io Fr s S0 r0 s' e Q hok hex
  refine tst2 (ref_test h) S0 e hex fun k s1 H1 io1 e2 px => ?_
  cases k with
  | true => exact h' σ H1 io1 Fr s1 px.1 _ _ e2 Q (fun x q v H2 io2 py => hok x q v H2 io2 (py.trans px.2)) fun x q cls d H2 io2 py => hex x q cls d H2 io2 ⟨py.1, px.2.trans py.2.1, py.2.2⟩
  | false => cases e2; exact hok _ rfl _ _ _ ⟨px.1, px.2, .bl _⟩
theorem ref_notV {t : TE} {a : Mo RV} (h : RefE K mg ea Wx t a) : RefE K mg ea Wx (tNotV t) (mNotV a) := by
  intro σ H io Fr s S0 r0 s' e Q hok hex
  refine tst2 (ref_test h) S0 e hex fun k s1 H1 io1 e2 px => ?_
  cases e2
  exact hok _ rfl _ _ _ ⟨px.1, px.2, .bl _⟩
structure RefG (K : PySem.W.Frag) (mg : Str → Option Value) (ea : EA) (g : TG) (tg : W → Mo Unit) (vs : List Nat) : Prop where
  ne : ∀ w s r s', tg w s = some (r, s') → r = .ok ()
  go : ∀ (σ : L2.St) (H : Hp) (io : List Addr) (Fr : Addr → Prop) (s : S) (w : W) (v : V), Sim K mg ea io Fr s σ H → Rw K mg io (Ms io Fr s σ) H w v →
    ∀ r s', tg w s = some (r, s') → ∀ Q : L2.St → Hp → Prop, (∀ σ', Sim K mg ea io Fr s' σ' H → (∀ b, Ms io Fr s' σ' b → Ms io Fr s σ b) → σ'.length = σ.length → (∀ j, j ∉ vs → σ'[j]? = σ[j]?) → Q σ' H) → g v σ H Q
structure RefGs (K : PySem.W.Frag) (mg : Str → Option Value) (ea : EA) (g : TGs) (tg : List W → Mo Unit) (vs : List Nat) : Prop where
  ne : ∀ w s r s', tg w s = some (r, s') → r = .ok ()
  go : ∀ (σ : L2.St) (H : Hp) (io : List Addr) (Fr : Addr → Prop) (s : S) (ws : List W) (us : List V), Sim K mg ea io Fr s σ H → Rws K mg io (Ms io Fr s σ) H ws us →
    ∀ r s', tg ws s = some (r, s') → ∀ Q : L2.St → Hp → Prop, (∀ σ', Sim K mg ea io Fr s' σ' H → (∀ b, Ms io Fr s' σ' b → Ms io Fr s σ b) → σ'.length = σ.length → (∀ j, j ∉ vs → σ'[j]? = σ[j]?) → Q σ' H) → g us σ H Q
def tgN (i : Nat) (w : W) : Mo Unit := fun s => some (.ok (), { s with r := s.r.set i (.val w) })
def tgsNil : List W → Mo Unit
  | [] => ret ()
  | _ => stk
def tgsCons (t : W → Mo Unit) (u : List W → Mo Unit) : List W → Mo Unit
  | w :: ws => bnd (t w) fun _ => u ws
  | [] => stk
def tgT (n : Nat) (u : List W → Mo Unit) : W → Mo Unit
  | .tup ws => if ws.length = n then u ws else stk
  | _ => stk
theorem ref_tgN (i : Nat) : RefG K mg ea (gName i) (tgN i) [i] where
  ne := fun w s r s' e => by cases e; rfl
  go := by
    intro σ H io Fr s w v S0 R r s' e
    cases e
    intro Q hq
    obtain ⟨S1, l⟩ := S0.setVal (i := i) R
    exact hq _ S1 l (by simp) fun j hj => List.getElem?_set_ne fun z => hj (by simp [z])
theorem ref_tgsNil : RefGs K mg ea gNil tgsNil [] where
  ne := fun w s r s' e => by
    cases w with
    | nil => cases e; rfl
    | cons _ _ => cases e
  go := by
    intro σ H io Fr s ws vs S0 R r s' e
    cases ws with
    | nil => cases e; exact fun Q hq => ⟨R.nil_inv, hq σ S0 (fun _ z => z) rfl fun _ _ => rfl⟩
    | cons w ws => cases e
theorem ref_tgsCons {t : TG} {u : TGs} {tm : W → Mo Unit} {um : List W → Mo Unit} {l1 l2 : List Nat} (h : RefG K mg ea t tm l1) (h' : RefGs K mg ea u um l2) : RefGs K mg ea (gCons t u) (tgsCons tm um) (l1 ++ l2) where
  ne := fun w s r s' e => by
    cases w with
    | nil => cases e
    | cons w ws =>
      rcases bnd_some e with ⟨x, e1, rfl⟩ | ⟨_, s1, e1, e2⟩
      · have := h.ne _ _ _ _ e1
        cases this
      · exact h'.ne _ _ _ _ e2
  go := by
    intro σ H io Fr s ws vs S0 R r s' e
    cases ws with
    | nil => cases e
    | cons w ws =>
      intro Q hq
      obtain ⟨v, r', rfl, h1, h2⟩ := R.cons_inv
      refine ⟨v, r', rfl, ?_⟩
      rcases bnd_some e with ⟨x, e1, rfl⟩ | ⟨_, s1, e1, e2⟩
      · have := h.ne _ _ _ _ e1
        cases this
      · refine h.go σ H io Fr s w v S0 h1 _ _ e1 _ fun σ1 S1 l1 n1 k1 => ?_
        exact h'.go σ1 H io Fr s1 ws r' S1 (h2.pers (.less l1)) _ _ e2 Q fun σ2 S2 l2 n2 k2 => hq σ2 S2 (fun b z => l1 b (l2 b z)) (n2.trans n1) fun j hj => by
          simp only [List.mem_append, not_or] at hj
          exact (k2 j hj.2).trans (k1 j hj.1)
theorem ref_tgT {n : Nat} {u : TGs} {um : List W → Mo Unit} {l : List Nat} (h : RefGs K mg ea u um l) : RefG K mg ea (gTup K n u) (tgT n um) l where
  ne := fun w s r s' e => by
    unfold tgT at e
    split at e
    · split at e
      · exact h.ne _ _ _ _ e
      · cases e
    · cases e
  go := by
    intro σ H io Fr s w v S0 R r s' e Q hq
    unfold tgT at e
    split at e
    · rename_i ws
      split at e
      · rename_i hn
        obtain ⟨a, vs, rfl, ha, r2⟩ := Rn.tup (.inl R)
        exact ⟨a, vs, rfl, ha, by rw [← r2.1]; exact hn, h.go σ H io Fr s ws vs S0 r2 _ _ e Q hq⟩
      · cases e
    · cases e
def mAsgT (t : W → Mo Unit) (m : Mo RV) : Mo Fl := bnd m fun x => bnd (freeze (settle x)) fun w => bnd (t w) fun _ => ret .nx
theorem ref_asgT {te : TE} {g : TG} {m : Mo RV} {t : W → Mo Unit} {l : List Nat} (h : RefE K mg ea Wx te m) (hg : RefG K mg ea g t l) : RefS K mg ea Wx (tAsg te g) (mAsgT t m) := by
  intro σ H io Fr s S0 r0 s' e D hnx hbk hct hrt hex
  refine one2 h S0 e (fun x q cls d H' io' px => hex x q cls d σ H' io' px) fun x v s1 H1 io1 e2 px => ?_
  obtain ⟨S1, T1, R1⟩ := px.settled
  rcases bnd_some e2 with ⟨z, e3, _⟩ | ⟨w, s3, e3, e4⟩
  · obtain ⟨_, _, _, _, q, _⟩ := freeze_ok S1 R1 e3
    cases q
  · obtain ⟨_, l3, S3, w', q, R3⟩ := freeze_ok S1 R1 e3
    cases q
    rcases bnd_some e4 with ⟨z, e5, rfl⟩ | ⟨_, s5, e5, e6⟩
    · have := hg.ne _ _ _ _ e5
      cases this
    · refine hg.go σ H1 io1 Fr s3 _ v S3 R3 _ _ e5 _ fun σ2 S2 l2 _ _ => ?_
      cases e6
      exact hnx rfl σ2 H1 io1 ⟨S2, T1.less fun b z => l3 b (l2 b z)⟩
structure Wk where
  ws : List W
  on : Option Nat
def Wk.ok (k : Wk) (s : S) : Prop := match k.on with
  | none => True
  | some n => s.G[n]? = some (.lst k.ws)
noncomputable instance (k : Wk) (s : S) : Decidable (k.ok s) := Classical.propDecidable _
def Cn (K : PySem.W.Frag) (mg : Str → Option Value) (k : Wk) (io : List Addr) (M : Addr → Prop) (H : Hp) : Prop := match k.on with
  | none => True
  | some n => ∃ a vs, io[n]? = some a ∧ H a = some (.lst vs) ∧ Rws K mg io M H k.ws vs
theorem cn_of {k : Wk} (S0 : Sim K mg ea io Fr s σ H) (h : k.ok s) : Cn K mg k io (Ms io Fr s σ) H := by
  unfold Wk.ok at h
  unfold Cn
  split at h
  · trivial
  · rename_i n e
    have hn : n < io.length := by rw [S0.g.len]; exact get_lt h
    obtain ⟨o, ho, vs, rfl, r⟩ := S0.g.cell n io[n] _ (by simp [hn]) h
    exact ⟨_, vs, by simp [hn], ho, r⟩
structure ItG (K : PySem.W.Frag) (mg : Str → Option Value) (J : It) (k : Wk) (io : List Addr) (M : Addr → Prop) (H : Hp) : Prop where
  go : ∀ io' M' H', Pers io M H io' M' H' → Cn K mg k io' M' H' → ∀ i, i < k.ws.length → J.go i H'
  stop : ∀ io' M' H', Pers io M H io' M' H' → Cn K mg k io' M' H' → J.stop k.ws.length H'
  yld : ∀ io' M' H', Pers io M H io' M' H' → Cn K mg k io' M' H' → (∀ a, M' a → ∃ o, H' a = some o ∧ Nt o) → ∀ i x H2, J.yld i H' x H2 → ∀ w, k.ws[i]? = some w → (H2 = H' ∧ Rw K mg io' M' H' w x) ∨ ∃ p us ws', H' p = none ∧ x = .ref p ∧ w = .tup ws' ∧ H2 = upd H' p (.tup us) ∧ Rws K mg io' M' H' ws' us
def RefI (K : PySem.W.Frag) (mg : Str → Option Value) (ea : EA) (Wx : WX) (wi : TI) (m : Mo Wk) : Prop := ∀ (σ : L2.St) (H : Hp) (io : List Addr) (Fr : Addr → Prop) (s : S), Sim K mg ea io Fr s σ H → ∀ r s', m s = some (r, s') → ∀ R : It → Hp → Prop,
  (∀ k, r = .ok k → ∀ J H' io', PostS K mg ea io Fr s σ H s' σ io' H' → ItG K mg J k io' (Ms io' Fr s' σ) H' → R J H') → (∀ x, r = .error x → ∀ cls d H' io', PostX K mg ea io Fr s σ H s' σ io' H' x cls d → Wx cls d σ H') → wi σ H R
noncomputable def forL (k : Wk) : List W → (W → Mo Fl) → Mo Fl
  | [], _ => fun s => if k.ok s then some (.ok .nx, s) else none
  | w :: ws, b => fun s => if k.ok s then (bnd (b w) fun f => match f with
    | .nx => forL k ws b
    | .ct => forL k ws b
    | .bk => ret .nx
    | .rt f => ret (.rt f)) s else none
noncomputable def mFor (mi : Mo Wk) (t : W → Mo Unit) (mb : Mo Fl) : Mo Fl := bnd mi fun k => forL k k.ws fun w => bnd (t w) fun _ => mb
theorem drop_get {α : Type} : ∀ {l : List α} {i : Nat} (h : i < l.length), l.drop i = l[i] :: l.drop (i + 1)
  | [], i, h => by simp at h
  | x :: l, 0, _ => by simp
  | x :: l, i + 1, h => by simpa using drop_get (l := l) (i := i) (by simpa using h)
theorem ref_for {wi : TI} {g : TG} {tb : TS} {mi : Mo Wk} {t : W → Mo Unit} {mb : Mo Fl} {l : List Nat} (hi : RefI K mg ea Wx wi mi) (hg : RefG K mg ea g t l) (hb : RefS K mg ea Wx tb mb) : RefS K mg ea Wx (tFor wi g tb) (mFor mi t mb) := by
  intro σ H io Fr s S0 r0 s' e D hnx hbk hct hrt hex
  rcases bnd_some e with ⟨x, e1, rfl⟩ | ⟨kw, s1, e1, e2⟩
  · exact hi σ H io Fr s S0 _ _ e1 _ (fun _ q => by cases q) fun x' q cls d H' io' px => by
      cases q
      exact hex _ rfl cls d σ H' io' px
  · refine hi σ H io Fr s S0 _ _ e1 _ (fun kw' q J H1 io1 px G => ?_) (fun _ q => by cases q)
    cases q
    refine ⟨fun i m σ2 H2 => m = kw.ws.length - i ∧ i ≤ kw.ws.length ∧ ∃ io2 s2, Sim K mg ea io2 Fr s2 σ2 H2 ∧ Stp io (Ms io Fr s σ) Fr H io2 (Ms io2 Fr s2 σ2) H2 ∧ Pers io1 (Ms io1 Fr s1 σ) H1 io2 (Ms io2 Fr s2 σ2) H2 ∧
      (∀ x o, H1 x = some o → ∃ o', H2 x = some o') ∧ forL kw (kw.ws.drop i) (fun w => bnd (t w) fun _ => mb) s2 = some (r0, s'),
      ⟨kw.ws.length, by simp, Nat.zero_le _, io1, s1, px.1, px.2, .refl, fun _ o h => ⟨o, h⟩, by simpa using e2⟩, ?_⟩
    rintro i m σ2 H2 ⟨rfl, hle, io2, s2, S2, T2, P2, tk, e3⟩
    have ck : kw.ok s2 := by
      cases hd : kw.ws.drop i with
      | nil =>
        rw [hd] at e3; unfold forL at e3; split at e3
        · assumption
        · cases e3
      | cons w ws =>
        rw [hd] at e3; unfold forL at e3; split at e3
        · assumption
        · cases e3
    have cn := cn_of S2 ck
    by_cases hlt : i < kw.ws.length
    · refine .inr ⟨G.go _ _ _ P2 cn i hlt, fun σ3 H3 => ∃ io3 s3, Sim K mg ea io3 Fr s3 σ3 H3 ∧ Stp io (Ms io Fr s σ) Fr H io3 (Ms io3 Fr s3 σ3) H3 ∧ Pers io1 (Ms io1 Fr s1 σ) H1 io3 (Ms io3 Fr s3 σ3) H3 ∧
        (∀ x o, H1 x = some o → ∃ o', H3 x = some o') ∧ forL kw (kw.ws.drop (i + 1)) (fun w => bnd (t w) fun _ => mb) s3 = some (r0, s'), fun σ3 H3 ⟨io3, s3, a1, a2, a3, a4, a5⟩ => ⟨kw.ws.length - (i + 1), by omega, rfl, hlt, io3, s3, a1, a2, a3, a4, a5⟩, fun x H3 y => ?_⟩
      rw [drop_get hlt] at e3
      have item : ∃ io3 , Sim K mg ea io3 Fr s2 σ2 H3 ∧ Stp io2 (Ms io2 Fr s2 σ2) Fr H2 io3 (Ms io3 Fr s2 σ2) H3 ∧ Rw K mg io3 (Ms io3 Fr s2 σ2) H3 kw.ws[i] x := by
        rcases G.yld _ _ _ P2 cn (fun a z => S2.trkN z) i x H3 y kw.ws[i] (by simp [hlt]) with ⟨rfl, r⟩ | ⟨p, us, ws', hp, rfl, hw, rfl, r⟩
        · exact ⟨io2, S2, .refl, r⟩
        · obtain ⟨S3, T3⟩ := S2.laid (o := .tup us) hp
          have r' := r.pers T3.p
          refine ⟨io2, S3, T3, ?_⟩
          rw [hw]
          refine .tup (.inl ⟨upd_same, fun z => ?_⟩) r'.1 r'.2
          obtain ⟨u, e⟩ := S2.trk z
          rw [hp] at e; cases e
      obtain ⟨io3, S3, T3, R3⟩ := item
      have T23 := T2.trans T3
      have P3 := P2.trans T3.p tk
      have tk3 : ∀ x o, H1 x = some o → ∃ o', H3 x = some o' := fun x o h => let ⟨o', h'⟩ := tk x o h; T3.trk x o' h'
      unfold forL at e3
      rw [if_pos ck] at e3
      have body : ∀ {rb : Except Ex Fl} {s4 : S}, (bnd (t kw.ws[i]) fun _ => mb) s2 = some (rb, s4) → ∀ D' : Ends,
          (∀ f, rb = .ok f → (f = .nx → ∀ σ4 H4 io4, Sim K mg ea io4 Fr s4 σ4 H4 → Stp io3 (Ms io3 Fr s2 σ2) Fr H3 io4 (Ms io4 Fr s4 σ4) H4 → D'.nx σ4 H4) ∧ (f = .bk → ∀ σ4 H4 io4, Sim K mg ea io4 Fr s4 σ4 H4 → Stp io3 (Ms io3 Fr s2 σ2) Fr H3 io4 (Ms io4 Fr s4 σ4) H4 → D'.bk σ4 H4) ∧
            (f = .ct → ∀ σ4 H4 io4, Sim K mg ea io4 Fr s4 σ4 H4 → Stp io3 (Ms io3 Fr s2 σ2) Fr H3 io4 (Ms io4 Fr s4 σ4) H4 → D'.ct σ4 H4) ∧ (∀ u, f = .rt u → ∀ v H4 io4, PostF K mg io3 (Ms io3 Fr s2 σ2) Fr H3 s4.G io4 H4 u v → D'.rt v H4)) →
          (∀ xx, rb = .error xx → ∀ cls d σ4 H4 io4, Sim K mg ea io4 Fr s4 σ4 H4 → Stp io3 (Ms io3 Fr s2 σ2) Fr H3 io4 (Ms io4 Fr s4 σ4) H4 → ExR K mg io4 (Ms io4 Fr s4 σ4) H4 xx cls d → Wx cls d σ4 H4) → g x σ2 H3 fun σ5 H5 => tb D' σ5 H5 := by
        intro rb s4 eb D' hok hxx
        rcases bnd_some eb with ⟨z, e5, rfl⟩ | ⟨_, s5, e5, e6⟩
        · have := hg.ne _ _ _ _ e5
          cases this
        · refine hg.go σ2 H3 io3 Fr s2 _ x S3 R3 _ _ e5 _ fun σ5 S5 l5 _ _ => ?_
          have T5 : Stp io3 (Ms io3 Fr s2 σ2) Fr H3 io3 (Ms io3 Fr s5 σ5) H3 := Stp.refl.less l5
          exact hb σ5 H3 io3 Fr s5 S5 _ _ e6 D' (fun q σ4 H4 io4 p => (hok _ q).1 rfl σ4 H4 io4 p.1 (T5.trans p.2)) (fun q σ4 H4 io4 p => (hok _ q).2.1 rfl σ4 H4 io4 p.1 (T5.trans p.2))
            (fun q σ4 H4 io4 p => (hok _ q).2.2.1 rfl σ4 H4 io4 p.1 (T5.trans p.2)) (fun u q v H4 io4 p => (hok _ q).2.2.2 u rfl v H4 io4 (p.trans T5)) fun xx q cls d σ4 H4 io4 p => hxx xx q cls d σ4 H4 io4 p.1 (T5.trans p.2.1) p.2.2
      rcases bnd_some e3 with ⟨z, e4, rfl⟩ | ⟨f, s4, e4, e5⟩
      · exact body e4 _ (fun _ q => by cases q) fun xx q cls d σ4 H4 io4 a1 a2 a3 => by
          cases q
          exact hex _ rfl cls d σ4 H4 io4 ⟨a1, T23.trans a2, a3⟩
      · refine body e4 _ (fun f' q => ?_) fun _ q => by cases q
        cases q
        have again : forL kw (kw.ws.drop (i + 1)) (fun w => bnd (t w) fun _ => mb) s4 = some (r0, s') → ∀ σ4 H4 io4, Sim K mg ea io4 Fr s4 σ4 H4 → Stp io3 (Ms io3 Fr s2 σ2) Fr H3 io4 (Ms io4 Fr s4 σ4) H4 →
            ∃ io3 s3, Sim K mg ea io3 Fr s3 σ4 H4 ∧ Stp io (Ms io Fr s σ) Fr H io3 (Ms io3 Fr s3 σ4) H4 ∧ Pers io1 (Ms io1 Fr s1 σ) H1 io3 (Ms io3 Fr s3 σ4) H4 ∧ (∀ x o, H1 x = some o → ∃ o', H4 x = some o') ∧ forL kw (kw.ws.drop (i + 1)) (fun w => bnd (t w) fun _ => mb) s3 = some (r0, s') :=
          fun e6 σ4 H4 io4 a1 a2 => ⟨io4, s4, a1, T23.trans a2, P3.trans a2.p tk3, fun x o h => let ⟨o', h'⟩ := tk3 x o h; a2.trk x o' h', e6⟩
        refine ⟨fun q => ?_, fun q => ?_, fun q => ?_, fun u q => ?_⟩
        · subst q; exact again e5
        · subst q
          intro σ4 H4 io4 a1 a2
          cases e5
          exact hnx rfl σ4 H4 io4 ⟨a1, T23.trans a2⟩
        · subst q; exact again e5
        · subst q
          intro v H4 io4 p
          cases e5
          exact hrt _ rfl v H4 io4 (p.trans T23)
    · have hi' : i = kw.ws.length := by omega
      subst hi'
      rw [List.drop_length] at e3
      unfold forL at e3
      rw [if_pos ck] at e3
      cases e3
      exact .inl ⟨G.stop _ _ _ P2 cn, hnx rfl σ2 H2 io2 ⟨S2, T2⟩⟩
end
end Z
set_option Elab.async false
set_option linter.all false
set_option maxRecDepth 100000
namespace Z
open PySem PySem.Spec PyProof.Rows L2
section
variable {K : PySem.W.Frag} {mg : Str → Option Value} {ea : EA} {io io' : List Addr} {Fr Fr' : Addr → Prop} {s s' s2 : S} {σ σ' : L2.St} {H H' : Hp} {w : W} {v : V} {c : Cell} {o : HO} {a p : Addr} {ws : List W} {vs : List V} {M : Addr → Prop}
variable {Wx : WX}
theorem itg_list (h : H a = some (.lst vs)) (hn : ¬ M a) (r : Rws K mg io M H ws vs) : ItG K mg (Itl K a) ⟨ws, none⟩ io M H where
  go := fun io' M' H' P _ i hi => ⟨vs, vs[i]'(by rw [← r.1]; exact hi), SqL.of (P.keep _ _ h hn), by simp [← r.1, hi]⟩
  stop := fun io' M' H' P _ => ⟨vs, SqL.of (P.keep _ _ h hn), by rw [r.1]; exact Nat.le_refl _⟩
  yld := fun io' M' H' P _ _ i x H2 y w hw => .inl ⟨y.1, (r.2 i w x hw (y.2 vs (SqL.of (P.keep _ _ h hn)))).pers P⟩
theorem itg_frl (h : (Rd H a (.lst vs) ∧ ¬ M a) ∨ KL K a vs) (r : Rws K mg io M H ws vs) : ItG K mg (Itl K a) ⟨ws, none⟩ io M H := by
  have q : ∀ io' M' H', Pers io M H io' M' H' → SqL K H' a vs := fun io' M' H' P => h.imp (fun z => P.rd z.1 z.2) id
  exact {
           go := fun io' M' H' P _ i hi => ⟨vs, vs[i]'(by rw [← r.1]; exact hi), q _ _ _ P, by simp [← r.1, hi]⟩
           stop := fun io' M' H' P _ => ⟨vs, q _ _ _ P, by rw [r.1]; exact Nat.le_refl _⟩
           yld := fun io' M' H' P _ _ i x H2 y w hw => .inl ⟨y.1, (r.2 i w x hw (y.2 vs (q _ _ _ P))).pers P⟩ }
theorem itg_tup (h : (H a = some (.tup vs) ∧ ¬ M a) ∨ (KT K a vs ∧ vs = [])) (r : Rws K mg io M H ws vs) : ItG K mg (Itt K a) ⟨ws, none⟩ io M H := by
  have q : ∀ io' M' H', Pers io M H io' M' H' → SqT K H' a vs := fun io' M' H' P => h.elim (fun z => SqT.of (P.keep _ _ z.1 z.2)) fun z => .inr z.1
  exact {
           go := fun io' M' H' P _ i hi => ⟨vs, vs[i]'(by rw [← r.1]; exact hi), q _ _ _ P, by simp [← r.1, hi]⟩
           stop := fun io' M' H' P _ => ⟨vs, q _ _ _ P, by rw [r.1]; exact Nat.le_refl _⟩
           yld := fun io' M' H' P _ _ i x H2 y w hw => .inl ⟨y.1, (r.2 i w x hw (y.2 vs (q _ _ _ P))).pers P⟩ }
theorem itg_cell {n : Nat} (h0 : io[n]? = some a) : ItG K mg (Itl K a) ⟨ws, some n⟩ io M H := by
  have q : ∀ io' M' H', Pers io M H io' M' H' → Cn K mg ⟨ws, some n⟩ io' M' H' → ∃ vs, H' a = some (.lst vs) ∧ Rws K mg io' M' H' ws vs := fun io' M' H' P c => by
    obtain ⟨a', vs, h1, h2, h3⟩ := c
    rw [P.ext _ _ h0] at h1
    cases h1
    exact ⟨vs, h2, h3⟩
  exact {
           go := fun io' M' H' P c i hi => by
             obtain ⟨vs, h2, h3⟩ := q _ _ _ P c
             exact ⟨vs, vs[i]'(by rw [← h3.1]; exact hi), SqL.of h2, by simp [← h3.1, hi]⟩
           stop := fun io' M' H' P c => by
             obtain ⟨vs, h2, h3⟩ := q _ _ _ P c
             exact ⟨vs, SqL.of h2, by rw [h3.1]; exact Nat.le_refl _⟩
           yld := fun io' M' H' P c _ i x H2 y w hw => by
             obtain ⟨vs, h2, h3⟩ := q _ _ _ P c
             exact .inl ⟨y.1, h3.2 i w x hw (y.2 vs (SqL.of h2))⟩ }
def rngW (lo : Int) (n : Nat) : List W := (List.range n).map fun (k : Nat) => W.int (lo + (k : Int))
theorem itg_rng {lo : Int} {n : Nat} : ItG K mg (Itr lo n) ⟨rngW lo n, none⟩ io M H where
  go := fun io' M' H' P _ i hi => by
    show i < n
    simpa [rngW] using hi
  stop := fun io' M' H' P _ => by
    show n ≤ (rngW lo n).length
    simp [rngW]
  yld := fun io' M' H' P _ _ i x H2 y w hw => by
    obtain ⟨y1, rfl⟩ := y
    refine .inl ⟨y1, ?_⟩
    have hi := get_lt hw
    simp only [rngW, List.length_map, List.length_range] at hi
    simp only [rngW, List.getElem?_map, List.getElem?_range hi, Option.map_some, Option.some.injEq] at hw
    subst hw
    exact .int _
def walkOf (s : S) : W → Option Wk
  | .ref n => match s.G[n]? with
    | some (.lst ws) => some ⟨ws, some n⟩
    | _ => none
  | w => (seqOf w).map fun ws => ⟨ws, none⟩
def mIter (m : Mo RV) : Mo Wk := bnd m fun x => bnd (freeze (settle x)) fun w s => (walkOf s w).map fun k => (.ok k, s)
theorem ref_iter {tl : TE} {m : Mo RV} (h : RefE K mg ea Wx tl m) : RefI K mg ea Wx (fun σ H R => iList K tl σ H R ∨ iTup K tl σ H R) (mIter m) := by
  intro σ H io Fr s S0 r0 s' e R hok hex
  rcases bnd_some e with ⟨x, e1, rfl⟩ | ⟨x, s1, e1, e2⟩
  · exact .inl (h σ H io Fr s S0 _ _ e1 _ (fun _ q => by cases q) fun x' q cls d H' io' px => by
      cases q
      exact hex _ rfl cls d H' io' px)
  · have key : ∀ {Q : VK}, (∀ w v H1 io1, (walkOf s' w).map (fun k => (Except.ok k, s')) = some (r0, s') → Sim K mg ea io1 Fr s' σ H1 → Stp io (Ms io Fr s σ) Fr H io1 (Ms io1 Fr s' σ) H1 → Rw K mg io1 (Ms io1 Fr s' σ) H1 w v → (∃ s4, freeze (settle x) s1 = some (.ok w, s4)) → Q v H1) → tl σ H Q := by
      intro Q hQ
      refine h σ H io Fr s S0 _ _ e1 _ (fun x' q v H1 io1 px => ?_) (fun _ q => by cases q)
      cases q
      obtain ⟨S1, T1, R1⟩ := px.settled
      rcases bnd_some e2 with ⟨z, e3, _⟩ | ⟨w, s3, e3, e4⟩
      · obtain ⟨_, _, _, _, q, _⟩ := freeze_ok S1 R1 e3
        cases q
      · obtain ⟨_, l3, S3, w', q, R3⟩ := freeze_ok S1 R1 e3
        cases q
        obtain ⟨k, h1, h2⟩ := Option.map_eq_some_iff.mp e4
        cases h2
        exact hQ w v H1 io1 (by rw [h1]; rfl) S3 (T1.less l3) R3 ⟨_, e3⟩
    rcases bnd_some e2 with ⟨z, e3, rfl⟩ | ⟨w0, s3, e3, e4⟩
    · refine .inl (key fun w v H1 io1 k S1 T1 R1 ⟨s4, q⟩ => ?_)
      rw [e3] at q; cases q
    · cases w0 with
      | tup ws =>
        refine .inr (key fun w v H1 io1 k S1 T1 R1 ⟨s4, q⟩ => ?_)
        rw [e3] at q
        cases q
        cases k
        cases R1 with
        | tup h1 h2 h3 => exact ⟨_, rfl, ⟨_, h1.elim (fun z => SqT.of z.1) fun z => .inr z.1⟩, hok _ rfl _ _ _ ⟨S1, T1⟩ (itg_tup h1 ⟨h2, h3⟩)⟩
      | lst ws =>
        refine .inl (key fun w v H1 io1 k S1 T1 R1 ⟨s4, q⟩ => ?_)
        rw [e3] at q
        cases q
        cases k
        cases R1 with
        | lst h1 h2 h3 h4 => exact ⟨_, rfl, ⟨_, SqL.of h1⟩, hok _ rfl _ _ _ ⟨S1, T1⟩ (itg_list h1 h2 ⟨h3, h4⟩)⟩
      | frl ws =>
        refine .inl (key fun w v H1 io1 k S1 T1 R1 ⟨s4, q⟩ => ?_)
        rw [e3] at q
        cases q
        cases k
        cases R1 with
        | frl h1 h3 h4 => exact ⟨_, rfl, ⟨_, h1.imp (fun z => z.1) id⟩, hok _ rfl _ _ _ ⟨S1, T1⟩ (itg_frl h1 ⟨h3, h4⟩)⟩
      | ref n =>
        refine .inl (key fun w v H1 io1 k S1 T1 R1 ⟨s4, q⟩ => ?_)
        rw [e3] at q
        cases q
        obtain ⟨kk, h1, h2⟩ := Option.map_eq_some_iff.mp k
        cases h2
        unfold walkOf at h1
        simp only at h1
        split at h1
        · rename_i ws hG
          cases h1
          cases R1 with
          | ref hn =>
            obtain ⟨o, ho, vs, rfl, r⟩ := S1.g.cell n _ _ hn hG
            exact ⟨_, rfl, ⟨_, SqL.of ho⟩, hok _ rfl _ _ _ ⟨S1, T1⟩ (itg_cell hn)⟩
        · cases h1
      | _ => cases e4
def Rk (j : Int) : Prop := -(2 ^ 62) ≤ j ∧ j < 2 ^ 62
noncomputable instance (j : Int) : Decidable (Rk j) := Classical.propDecidable _
def Lk (j : Int) : Prop := 0 ≤ j ∧ j < 2 ^ 63
noncomputable instance (j : Int) : Decidable (Lk j) := Classical.propDecidable _
noncomputable def mRng1 (ms : Mo (List RV)) : Mo Wk := bnd ms fun xs => bnd (lookAll xs) fun ws => match ws with
  | [.int j] => if Rk j then ret ⟨rngW 0 j.toNat, none⟩ else stk
  | _ => stk
theorem ref_rng1 {ta : TA} {ms : Mo (List RV)} (h : RefA K mg ea Wx ta ms) : RefI K mg ea Wx (iRng1 ta) (mRng1 ms) := by
  intro σ H io Fr s S0 r0 s' e R hok hex
  refine arg2 h S0 e hex fun xs vs s1 H1 io1 e2 px R1 => ?_
  rcases bnd_some e2 with ⟨x, e3, rfl⟩ | ⟨ws, s2, e3, e4⟩
  · obtain ⟨_, _, q, _⟩ := lookAll_ok px.1 R1 e3
    cases q
  · obtain ⟨rfl, ws', q, r2⟩ := lookAll_ok px.1 R1 e3
    cases q
    split at e4
    · split at e4
      · rename_i hz
        cases e4
        obtain ⟨v, rfl, rv⟩ := p1 r2
        have := rv.int
        subst this
        exact ⟨_, rfl, hz.1, hz.2, hok _ rfl _ _ _ px itg_rng⟩
      · cases e4
    · cases e4
variable (K mg ea Wx)
def tOf (m : Mo RV) : TE := fun σ H Q => ∃ io Fr s r s', Sim K mg ea io Fr s σ H ∧ m s = some (r, s') ∧ (∀ x, r = .ok x → ∀ v H' io', PostE K mg ea io Fr s σ H s' io' H' x v → Q v H') ∧
  (∀ x, r = .error x → ∀ cls d H' io', PostX K mg ea io Fr s σ H s' σ io' H' x cls d → Wx cls d σ H')
def ttOf (m : Mo Bool) : TT := fun σ H Q => ∃ io Fr s r s', Sim K mg ea io Fr s σ H ∧ m s = some (r, s') ∧ (∀ b, r = .ok b → ∀ H' io', PostS K mg ea io Fr s σ H s' σ io' H' → Q b H') ∧
  (∀ x, r = .error x → ∀ cls d H' io', PostX K mg ea io Fr s σ H s' σ io' H' x cls d → Wx cls d σ H')
def gOf (t : W → Mo Unit) (l : List Nat) : TG := fun v σ H Q => ∃ io Fr s w r s', Sim K mg ea io Fr s σ H ∧ Rw K mg io (Ms io Fr s σ) H w v ∧ t w s = some (r, s') ∧
  (∀ σ', Sim K mg ea io Fr s' σ' H → (∀ b, Ms io Fr s' σ' b → Ms io Fr s σ b) → σ'.length = σ.length → (∀ j, j ∉ l → σ'[j]? = σ[j]?) → Q σ' H)
variable {K mg ea Wx}
theorem ref_tOf (m : Mo RV) : RefE K mg ea Wx (tOf K mg ea Wx m) m := fun σ H io Fr s S0 r s' e Q h1 h2 => ⟨io, Fr, s, r, s', S0, e, h1, h2⟩
theorem ref_ttOf (m : Mo Bool) : RefT K mg ea Wx (ttOf K mg ea Wx m) m := fun σ H io Fr s S0 r s' e Q h1 h2 => ⟨io, Fr, s, r, s', S0, e, h1, h2⟩
theorem ref_gOf {t : W → Mo Unit} {l : List Nat} (ne : ∀ w s r s', t w s = some (r, s') → r = .ok ()) : RefG K mg ea (gOf K mg ea t l) t l := ⟨ne, fun σ H io Fr s w v S0 R r s' e Q h => ⟨io, Fr, s, w, r, s', S0, R, e, h⟩⟩
theorem Sim.updFr {o' : HO} (x : Sim K mg ea io Fr s σ H) (hp : Fr p) (ho : H p = some o) (hN : Nt o' := by intro _ z; cases z) : Sim K mg ea io Fr s σ (upd H p o') := by
  have ne : ∀ b, ¬ Ms io Fr s σ b → b ≠ p := fun b h z => by
    subst z
    exact h (.inr (.inl hp))
  have q : Pers io (Ms io Fr s σ) H io (Ms io Fr s σ) (upd H p o') := ⟨fun b u e h => by rw [upd_ne (ne b h)]; exact e, fun b z => .inl z, fun _ _ e => e⟩
  have nio : ∀ b ∈ io, b ≠ p := fun b hb z => by
    subst z
    exact x.g.dj b hb (.inl hp)
  refine ⟨x.len, ⟨x.g.len, fun n b c h1 h2 => ?_, x.g.nd, x.g.dj, fun b z => ?_⟩, fun i w e => ?_, fun i c e => ?_, x.dist, fun i e k => let ⟨h1, h2⟩ := x.exc i e k; ⟨h1, h2.pers q⟩⟩
  · obtain ⟨u, e, r⟩ := x.g.cell n b c h1 h2
    exact ⟨u, by rw [upd_ne (nio b (List.mem_of_getElem? h1))]; exact e, r.pers q⟩
  · by_cases h : b = p
    · exact ⟨o', by rw [h, upd_same], hN⟩
    · obtain ⟨u, e, n⟩ := x.g.fr b z
      exact ⟨u, by rw [upd_ne h]; exact e, n⟩
  · obtain ⟨v, h1, h2⟩ := x.val i w e
    exact ⟨v, h1, h2.pers q⟩
  · obtain ⟨b, u, h1, h2, h3, h4⟩ := x.own i c e
    exact ⟨b, u, h1, by rw [upd_ne (fun z => by subst z; exact h4 hp)]; exact h2, h3.pers q, h4⟩
theorem Stp.updNew {M M' : Addr → Prop} {o' : HO} (T : Stp io M Fr H io' M' H') (hp : H p = none) (hf : ¬ Fr p) (h' : H' p = some o) : Stp io M Fr H io' M' (upd H' p o') where
  p := ⟨fun b u e h => by rw [upd_ne (ne_of_none e hp)]; exact T.p.keep b u e h, T.p.new, T.p.ext⟩
  fr := fun b z => by rw [upd_ne (fun e => by subst e; exact hf z)]; exact T.fr b z
  trk := fun b u e => by rw [upd_ne (ne_of_none e hp)]; exact T.trk b u e
def wipeR (r : List SV) : List Nat → List SV
  | [] => r
  | v :: vs => (wipeR r vs).set v .non
def wipeS (vs : List Nat) (s : S) : S := { s with r := wipeR s.r vs }
theorem wipeR_len (r : List SV) : ∀ l : List Nat, (wipeR r l).length = r.length
  | [] => rfl
  | v :: vs => by unfold wipeR; rw [List.length_set, wipeR_len r vs]
theorem wipeR_get {r : List SV} {i : Nat} : ∀ {l : List Nat}, (i ∉ l → (wipeR r l)[i]? = r[i]?) ∧ (i ∈ l → (wipeR r l)[i]? = some .non ∨ (wipeR r l)[i]? = none)
  | [] => ⟨fun _ => rfl, fun h => by simp at h⟩
  | v :: vs => by
    obtain ⟨i1, i2⟩ := wipeR_get (r := r) (i := i) (l := vs)
    refine ⟨fun h => ?_, fun h => ?_⟩
    · simp only [List.mem_cons, not_or] at h
      unfold wipeR
      rw [List.getElem?_set_ne (fun z => h.1 z.symm)]
      exact i1 h.2
    · unfold wipeR
      by_cases e : v = i
      · subst e
        rcases Nat.lt_or_ge v (wipeR r vs).length with q | q
        · exact .inl (List.getElem?_set_self q)
        · exact .inr (List.getElem?_eq_none (by simpa using q))
      · rw [List.getElem?_set_ne e]
        rcases List.mem_cons.mp h with z | z
        · exact absurd z.symm e
        · exact i2 z
theorem wipe_get {σ : L2.St} {i : Nat} : ∀ {l : List Nat}, (i ∉ l → (wipe σ l)[i]? = σ[i]?) ∧ (i ∈ l → i < σ.length → (wipe σ l)[i]? = some none)
  | [] => ⟨fun _ => rfl, fun h => by simp at h⟩
  | v :: vs => by
    obtain ⟨i1, i2⟩ := wipe_get (σ := σ) (i := i) (l := vs)
    refine ⟨fun h => ?_, fun h hl => ?_⟩
    · simp only [List.mem_cons, not_or] at h
      unfold wipe
      rw [List.getElem?_set_ne (fun z => h.1 z.symm)]
      exact i1 h.2
    · unfold wipe
      by_cases e : v = i
      · subst e
        exact List.getElem?_set_self (by rw [wipe_length]; exact hl)
      · rw [List.getElem?_set_ne e]
        rcases List.mem_cons.mp h with z | z
        · exact absurd z.symm e
        · exact i2 z hl
theorem wipe_eq {σ σ' : L2.St} {l : List Nat} (hl : σ'.length = σ.length) (h : ∀ j, j ∉ l → σ'[j]? = σ[j]?) : wipe σ' l = wipe σ l := by
  apply List.ext_getElem?
  intro j
  by_cases hj : j ∈ l
  · rcases Nat.lt_or_ge j σ.length with q | q
    · rw [(wipe_get (σ := σ')).2 hj (by rw [hl]; exact q), (wipe_get (σ := σ)).2 hj q]
    · rw [List.getElem?_eq_none (by rw [wipe_length, hl]; exact q), List.getElem?_eq_none (by rw [wipe_length]; exact q)]
  · rw [(wipe_get (σ := σ')).1 hj, (wipe_get (σ := σ)).1 hj, h j hj]
theorem wipe_wipe {σ : L2.St} {l : List Nat} : wipe (wipe σ l) l = wipe σ l := wipe_eq (wipe_length σ l) fun j hj => (wipe_get (σ := σ)).1 hj
theorem Sim.wiped {l : List Nat} (x : Sim K mg ea io Fr s σ H) (hl : σ'.length = σ.length) (h : ∀ j, j ∉ l → σ'[j]? = σ[j]?) : Sim K mg ea io Fr (wipeS l s) σ' H ∧ (∀ b, Ms io Fr (wipeS l s) σ' b → Ms io Fr s σ b) := by
  refine x.sub (by rw [wipeR_len, x.len, hl]) fun i => ?_
  by_cases hi : i ∈ l
  · exact .inr ((wipeR_get (r := s.r)).2 hi)
  · exact .inl ⟨(wipeR_get (r := s.r)).1 hi, h i hi⟩
noncomputable def lcL (vs : List Nat) (t : W → Mo Unit) (tt : Mo Bool) (me : Mo RV) (k : Wk) : List W → List W → Mo RV
  | [], acc => fun s => if k.ok s then some (.ok (.own (.lst acc)), s) else none
  | w :: ws, acc => fun s => if k.ok s then (match (bnd (t w) fun _ => tt) s with
    | some (.ok true, s1) => match (bnd me fun x => freeze (settle x)) s1 with
      | some (.ok y, s2) => if acc.length < sz then lcL vs t tt me k ws (acc ++ [y]) (wipeS vs s2) else none
      | _ => none
    | some (.ok false, s1) => lcL vs t tt me k ws acc (wipeS vs s1)
    | _ => none) else none
noncomputable def mLc (vs : List Nat) (mi : Mo Wk) (t : W → Mo Unit) (tt : Mo Bool) (me : Mo RV) : Mo RV := bnd mi fun k => fun s => lcL vs t tt me k k.ws [] (wipeS vs s)
def W0 : WX := fun _ _ _ _ => False
theorem ref_lc {wi : TI} {g : TG} {tt : TT} {te : TE} {mi : Mo Wk} {t : W → Mo Unit} {mt : Mo Bool} {me : Mo RV} {l vs : List Nat} (hi : RefI K mg ea Wx wi mi) (hg : RefG K mg ea g t l) (hl : ∀ i ∈ l, i ∈ vs) (ht : RefT K mg ea W0 tt mt) (he : RefE K mg ea W0 te me) :
    RefE K mg ea Wx (tLc wi g tt te vs) (mLc vs mi t mt me) := by
  intro σ H io Fr s S0 r0 s' e Q hok hex
  rcases bnd_some e with ⟨x, e1, rfl⟩ | ⟨kw, s1, e1, e2⟩
  · exact hi σ H io Fr s S0 _ _ e1 _ (fun _ q => by cases q) fun x' q cls d H' io' px => by
      cases q
      exact hex _ rfl cls d H' io' px
  · refine hi σ H io Fr s S0 _ _ e1 _ (fun kw' q J H1 io1 px G => ?_) (fun _ q => by cases q)
    cases q
    intro D hD
    obtain ⟨SD, TD, nD⟩ := px.1.alloc (o := .lst []) hD
    have nFD : ¬ Fr D := fun z => nD (.inl z)
    obtain ⟨SW, lW⟩ := SD.wiped (l := vs) (σ' := wipe σ vs) (wipe_length σ vs) fun j hj => (wipe_get (σ := σ)).1 hj
    have TW := TD.less lW
    refine ⟨fun i m H2 => m = kw.ws.length - i ∧ i ≤ kw.ws.length ∧ ∃ io2 s2 acc av, Sim K mg ea io2 (pls Fr D) s2 (wipe σ vs) H2 ∧ Stp io1 (Ms io1 Fr s1 σ) Fr H1 io2 (Ms io2 (pls Fr D) s2 (wipe σ vs)) H2 ∧
      H2 D = some (.lst av) ∧ Rws K mg io2 (Ms io2 (pls Fr D) s2 (wipe σ vs)) H2 acc av ∧ (∀ j, j ∈ vs → s2.r[j]? = some .non ∨ s2.r[j]? = none) ∧ lcL vs t mt me kw (kw.ws.drop i) acc s2 = some (r0, s'),
      ⟨kw.ws.length, by simp, Nat.zero_le _, io1, wipeS vs s1, [], [], SW, TW, upd_same, Rws.nil, fun j hj => (wipeR_get (r := s1.r)).2 hj, by simpa using e2⟩, ?_⟩
    rintro i m H2 ⟨rfl, hle, io2, s2, acc, av, S2, T2, hA, RA, wn, e3⟩
    have ck : kw.ok s2 := by
      cases hd : kw.ws.drop i with
      | nil =>
        rw [hd] at e3; unfold lcL at e3; split at e3
        · assumption
        · cases e3
      | cons w ws =>
        rw [hd] at e3; unfold lcL at e3; split at e3
        · assumption
        · cases e3
    have cn := cn_of S2 ck
    by_cases hlt : i < kw.ws.length
    · refine .inr ⟨G.go _ _ _ T2.p cn i hlt, fun H3 => ∃ io3 s3 acc av, Sim K mg ea io3 (pls Fr D) s3 (wipe σ vs) H3 ∧ Stp io1 (Ms io1 Fr s1 σ) Fr H1 io3 (Ms io3 (pls Fr D) s3 (wipe σ vs)) H3 ∧
        H3 D = some (.lst av) ∧ Rws K mg io3 (Ms io3 (pls Fr D) s3 (wipe σ vs)) H3 acc av ∧ (∀ j, j ∈ vs → s3.r[j]? = some .non ∨ s3.r[j]? = none) ∧ lcL vs t mt me kw (kw.ws.drop (i + 1)) acc s3 = some (r0, s'),
        fun H3 ⟨io3, s3, acc, av, a1, a2, a3, a4, a6, a5⟩ => ⟨kw.ws.length - (i + 1), by omega, rfl, hlt, io3, s3, acc, av, a1, a2, a3, a4, a6, a5⟩, fun x H3 y => ?_⟩
      rw [drop_get hlt] at e3
      have item : ∃ io3, Sim K mg ea io3 (pls Fr D) s2 (wipe σ vs) H3 ∧ Stp io2 (Ms io2 (pls Fr D) s2 (wipe σ vs)) (pls Fr D) H2 io3 (Ms io3 (pls Fr D) s2 (wipe σ vs)) H3 ∧ Rw K mg io3 (Ms io3 (pls Fr D) s2 (wipe σ vs)) H3 kw.ws[i] x := by
        rcases G.yld _ _ _ T2.p cn (fun a z => S2.trkN z) i x H3 y kw.ws[i] (by simp [hlt]) with ⟨rfl, r⟩ | ⟨p, us, ws', hp, rfl, hw, rfl, r⟩
        · exact ⟨io2, S2, .refl, r⟩
        · obtain ⟨S3, T3⟩ := S2.laid (o := .tup us) hp
          have r' := r.pers T3.p
          refine ⟨io2, S3, T3, ?_⟩
          rw [hw]
          refine .tup (.inl ⟨upd_same, fun z => ?_⟩) r'.1 r'.2
          obtain ⟨u, e⟩ := S2.trk z
          rw [hp] at e; cases e
      obtain ⟨io3, S3, T3, R3⟩ := item
      have T23 := T2.trans (T3.frless pls.sub)
      have hA3 : H3 D = some (.lst av) := (T3.fr D (.inr rfl)).trans hA
      have RA3 := RA.pers T3.p
      unfold lcL at e3
      rw [if_pos ck] at e3
      cases ex : (bnd (t kw.ws[i]) fun _ => mt) s2 with
      | none => rw [ex] at e3; cases e3
      | some pr =>
        obtain ⟨rb, s4⟩ := pr
        rw [ex] at e3
        rcases bnd_some ex with ⟨z, e5, rfl⟩ | ⟨_, s5, e5, e6⟩
        · have := hg.ne _ _ _ _ e5
          cases this
        · refine hg.go (wipe σ vs) H3 io3 (pls Fr D) s2 _ x S3 R3 _ _ e5 _ fun σ5 S5 l5 n5 k5 => ?_
          have k5' : ∀ j, j ∉ vs → σ5[j]? = (wipe σ vs)[j]? := fun j hj => k5 j fun z => hj (hl j z)
          have we : wipe σ5 vs = wipe σ vs := by rw [wipe_eq n5 k5', wipe_wipe]
          refine ⟨we, ?_⟩
          have T5 : Stp io3 (Ms io3 (pls Fr D) s2 (wipe σ vs)) (pls Fr D) H3 io3 (Ms io3 (pls Fr D) s5 σ5) H3 := Stp.refl.less l5
          have back : ∀ {s6 : S} {H6 : Hp} {io6 : List Addr}, Sim K mg ea io6 (pls Fr D) s6 σ5 H6 → Sim K mg ea io6 (pls Fr D) (wipeS vs s6) (wipe σ vs) H6 ∧ (∀ b, Ms io6 (pls Fr D) (wipeS vs s6) (wipe σ vs) b → Ms io6 (pls Fr D) s6 σ5 b) := fun S6 =>
            S6.wiped (by rw [n5]) fun j hj => (k5' j hj).symm
          cases rb with
          | error z => cases e3
          | ok b =>
            refine ht σ5 H3 io3 (pls Fr D) s5 S5 _ _ e6 _ (fun b' q H6 io6 p6 => ?_) fun z q => by cases q
            cases q
            have T36 := T23.trans ((T5.trans p6.2).frless pls.sub)
            have hA6 : H6 D = some (.lst av) := (p6.2.fr D (.inr rfl)).trans hA3
            have RA6 := (RA3.pers T5.p).pers p6.2.p
            cases b with
            | false =>
              rw [if_neg Bool.false_ne_true]
              obtain ⟨S7, l7⟩ := back p6.1
              exact ⟨io6, _, acc, av, S7, T36.less l7, hA6, RA6.pers (.less l7), fun j hj => (wipeR_get (r := s4.r)).2 hj, e3⟩
            | true =>
              rw [if_pos rfl]
              simp only at e3
              cases ey : (bnd me fun x => freeze (settle x)) s4 with
              | none => rw [ey] at e3; cases e3
              | some pr2 =>
                obtain ⟨ry, s7⟩ := pr2
                rw [ey] at e3
                cases ry with
                | error z => cases e3
                | ok yv =>
                  simp only at e3
                  split at e3
                  · rename_i hz
                    refine one2 he p6.1 ey (fun x q => by cases q) fun xr v s8 H8 io8 e8 p8 => ?_
                    obtain ⟨S8, T8, R8⟩ := p8.settled
                    obtain ⟨_, l9, S9, w', q, R9⟩ := freeze_ok S8 R8 e8
                    cases q
                    have hA8 : H8 D = some (.lst av) := (T8.fr D (.inr rfl)).trans hA6
                    have RA8 := (RA6.pers T8.p).pers (.less l9)
                    refine ⟨av, hA8, by rw [sz_eq, ← RA8.1]; exact hz, ?_⟩
                    have S10 := S9.updFr (o' := .lst (av ++ [v])) (.inr rfl) hA8
                    obtain ⟨S11, l11⟩ := back S10
                    have T11 : Stp io1 (Ms io1 Fr s1 σ) Fr H1 io8 (Ms io8 (pls Fr D) (wipeS vs s7) (wipe σ vs)) (upd H8 D (.lst (av ++ [v]))) :=
                      ((T36.trans ((T8.less l9).frless pls.sub)).updNew hD nFD hA8).less l11
                    have PD : Pers io8 (Ms io8 (pls Fr D) s7 σ5) H8 io8 (Ms io8 (pls Fr D) (wipeS vs s7) (wipe σ vs)) (upd H8 D (.lst (av ++ [v]))) :=
                      ⟨fun b u e h => by rw [upd_ne (fun z => by subst z; exact h (.inr (.inl (.inr rfl))))]; exact e, fun b z => .inl (l11 b z), fun _ _ e => e⟩
                    exact ⟨io8, _, acc ++ [yv], av ++ [v], S11, T11, upd_same, (RA8.append (Rws.one R9)).pers PD, fun j hj => (wipeR_get (r := s7.r)).2 hj, e3⟩
                  · cases e3
    · have hi' : i = kw.ws.length := by omega
      subst hi'
      rw [List.drop_length] at e3
      unfold lcL at e3
      rw [if_pos ck] at e3
      cases e3
      refine .inl ⟨G.stop _ _ _ T2.p cn, hok _ rfl (.ref D) H2 io2 ?_⟩
      obtain ⟨S3, l3⟩ := S2.sub (r' := s'.r) (σ' := σ) (by rw [S2.len, wipe_length]) fun j => by
        by_cases hj : j ∈ vs
        · exact .inr (wn j hj)
        · exact .inl ⟨rfl, ((wipe_get (σ := σ)).1 hj).symm⟩
      refine ⟨D, .lst av, rfl, hA, fun z => ?_, S3, (px.2.trans T2).less l3, av, rfl, RA.pers (.less l3)⟩
      rcases z with z | ⟨j, c, h1, h2⟩
      · exact nFD z
      · obtain ⟨b, o, q1, _, _, q4⟩ := S3.own j c h1
        rw [h2] at q1
        cases q1
        exact q4 (.inr rfl)
end
end Z
set_option Elab.async false
set_option linter.all false
set_option maxRecDepth 100000
namespace Z
open PySem PySem.Spec PyProof.Rows L2
section
variable {X : Cx} {ea : EA} {Wx : WX} {a b c e : Expr} {ma mb mc m : Mo RV} {pos pos' : Pos} {st : Stmt} {rest sts : List Stmt} {f g : Mo Fl} {mt : Mo Bool}
theorem PE.imp {t t' : TE} (h : PE X e t) (k : ∀ σ H Q, t' σ H Q → t σ H Q) : PE X e t' := ⟨fun pins s σ H Q I q => h.run pins s σ H Q I (k _ _ _ q)⟩
theorem Pee.can (h : Pee X ea Wx e m) : PE X e (tOf X.K X.mg ea Wx m) := by
  obtain ⟨t, p, r⟩ := h.ex
  exact PE.imp p fun σ H Q ⟨io, Fr, s, r0, s', S0, e, h1, h2⟩ => r σ H io Fr s S0 r0 s' e Q h1 h2
theorem Pet.can (h : Pet X ea Wx e mt) : PT X e (ttOf X.K X.mg ea Wx mt) := by
  obtain ⟨t, p, r⟩ := h.ex
  exact ⟨fun pins s σ H Q I ⟨io, Fr, s1, r0, s', S0, e, h1, h2⟩ => p.run pins s σ H Q I (r σ H io Fr s1 S0 r0 s' e Q h1 h2)⟩
structure Peg (X : Cx) (ea : EA) (tg : Expr) (t : W → Mo Unit) (l : List Nat) : Prop where
  ex : ∃ g, PG X tg g ∧ RefG X.K X.mg ea g t l
structure Pegs (X : Cx) (ea : EA) (tgs : List Expr) (t : List W → Mo Unit) (l : List Nat) : Prop where
  ex : ∃ g, PGs X tgs g ∧ RefGs X.K X.mg ea g t l
structure Pei (X : Cx) (ea : EA) (Wx : WX) (tg iter : Expr) (m : Mo Wk) : Prop where
  ex : ∃ wi, PI X tg iter wi ∧ RefI X.K X.mg ea Wx wi m
theorem Peg.can {tg : Expr} {t : W → Mo Unit} {l : List Nat} (h : Peg X ea tg t l) : PG X tg (gOf X.K X.mg ea t l) := by
  obtain ⟨g, p, r⟩ := h.ex
  exact ⟨fun pins s σ H v u Q I rv ⟨io, Fr, s1, w, r0, s', S0, R, e, h⟩ => p.run pins s σ H v u Q I rv (r.go σ H io Fr s1 w v S0 R r0 s' e Q h)⟩
theorem Peg.ne {tg : Expr} {t : W → Mo Unit} {l : List Nat} (h : Peg X ea tg t l) : ∀ w s r s', t w s = some (r, s') → r = .ok () := let ⟨_, _, r⟩ := h.ex; r.ne
theorem PI.or {tg iter : Expr} {wi wi' : TI} (h : PI X tg iter wi) (h' : PI X tg iter wi') : PI X tg iter (fun σ H R => wi σ H R ∨ wi' σ H R) := ⟨fun pins s σ H R I q => q.elim (h.run pins s σ H R I) (h'.run pins s σ H R I)⟩
theorem pee_ife (hc : Pet X ea Wx c mt) (ha : Pee X ea Wx a ma) (hb : Pee X ea Wx b mb) : Pee X ea Wx (.IfExp c a b pos) (mIfE mt ma mb) :=
  let ⟨_, p, r⟩ := hc.ex; let ⟨_, p1, r1⟩ := ha.ex; let ⟨_, p2, r2⟩ := hb.ex; ⟨_, pe_ifExp p p1 p2, ref_ife r r1 r2⟩
theorem pee_one {op} (h : Pee X ea Wx a ma) : Pee X ea Wx (.BoolOp op [a] pos) ma := let ⟨_, p, r⟩ := h.ex; ⟨_, pe_one p, r⟩
theorem pee_and {es : List Expr} (ha : Pee X ea Wx a ma) (hb : Pee X ea Wx (.BoolOp .And (b :: es) pos) mb) : Pee X ea Wx (.BoolOp .And (a :: b :: es) pos) (mAndV ma mb) :=
  let ⟨_, p1, r1⟩ := ha.ex; let ⟨_, p2, r2⟩ := hb.ex; ⟨_, L2.pe_and p1 p2, ref_andV r1 r2⟩
theorem pee_not (ha : Pee X ea Wx a ma) : Pee X ea Wx (.UnaryOp .Not a pos) (mNotV ma) := let ⟨_, p1, r1⟩ := ha.ex; ⟨_, L2.pe_not p1, ref_notV r1⟩
theorem peg_name (i : Nat) {x : Str} (hN : X.N.Nodup) (hi : X.N[i]? = some x := by rfl) (hx : Loc X.env.scope x := by first | exact Or.inl rfl | exact Or.inr rfl) (hf : X.fn x = true ∨ X.env.scope.names.lookup x = some .local := by first | exact .inl rfl | exact .inr rfl) :
    Peg X ea (.Name x pos) (tgN i) [i] := ⟨_, pg_name hN hi hx hf, ref_tgN i⟩
theorem pegs_nil : Pegs X ea [] tgsNil [] := ⟨_, pgs_nil, ref_tgsNil⟩
theorem pegs_cons {es : List Expr} {t : W → Mo Unit} {u : List W → Mo Unit} {l l' : List Nat} (h1 : Peg X ea e t l) (h2 : Pegs X ea es u l') (hs : (assignEach (e :: es) X.env).map (·.2) = assign e X.env :: (assignEach es X.env).map (·.2) := by rfl) :
    Pegs X ea (e :: es) (tgsCons t u) (l ++ l') := let ⟨_, p, r⟩ := h1.ex; let ⟨_, p', r'⟩ := h2.ex; ⟨_, pgs_cons p p' hs, ref_tgsCons r r'⟩
theorem peg_tup {es : List Expr} {k : Nat} {u : List W → Mo Unit} {l : List Nat} {n : Nat} (h : Pegs X ea es u l) (hc : X.calm = true := by rfl) (hn : (assignEach es X.env).length = n := by rfl) (hst : (assignEach es X.env).findIdx? (·.1) = none := by rfl) :
    Peg X ea (.Tuple es k pos) (tgT n u) l := let ⟨_, p, r⟩ := h.ex; ⟨_, pg_tup hc p hn hst, ref_tgT r⟩
theorem pei_seq {tg : Expr} (h : Pee X ea Wx e m) : Pei X ea Wx tg e (mIter m) := let ⟨_, p, r⟩ := h.ex; ⟨_, PI.or (pi_list p) (pi_tup p), ref_iter r⟩
theorem pei_rng1 {tg : Expr} {p : Pos} {ms : Mo (List RV)} (hm : X.mg "range" = none) (ha : Pea X ea Wx [a] ms) (hg : Gl X "range" := by rfl) (hs : starEach [a] X.env = [(false, eval a X.env)] := by rfl) : Pei X ea Wx tg (.Call (.Name "range" p) [a] [] pos) (mRng1 ms) :=
  let ⟨_, p, r⟩ := ha.ex; ⟨_, pi_range1 hg hm p hs, ref_rng1 r⟩
theorem pess_nil : Pess X ea Wx [] mNext := ⟨_, pss_nil, ref_next⟩
theorem pess_cons (h : Pes X ea Wx st f) (h' : Pess X ea Wx rest g) : Pess X ea Wx (st :: rest) (mSeq f g) := let ⟨_, p, r⟩ := h.ex; let ⟨_, p', r'⟩ := h'.ex; ⟨_, pss_cons p p', ref_seq r r'⟩
theorem pess_one (h : Pes X ea Wx st f) : Pess X ea Wx [st] f := let ⟨_, p, r⟩ := h.ex; ⟨_, pss_one p, r⟩
theorem pes_expr (h : Pee X ea Wx e m) (hs : swapsWith e none pos.line X.env = pure false := by rfl) : Pes X ea Wx (.Expr e pos) (mDrop m) := let ⟨_, p, r⟩ := h.ex; ⟨_, ps_expr p hs, ref_drop r⟩
theorem pes_ret (h : Pee X ea Wx e m) : Pes X ea Wx (.Return (some e) pos) (mRet m) := let ⟨_, p, r⟩ := h.ex; ⟨_, ps_ret p, ref_ret r⟩
theorem pes_if (hc : Pet X ea Wx c mt) (h : Pess X ea Wx sts f) (h' : Pess X ea Wx rest g) : Pes X ea Wx (.If c sts rest pos) (mIf mt f g) := let ⟨_, p, r⟩ := hc.ex; let ⟨_, p1, r1⟩ := h.ex; let ⟨_, p2, r2⟩ := h'.ex; ⟨_, ps_if p p1 p2, ref_if r r1 r2⟩
theorem pes_set (i : Nat) {x : Str} {pos' : Pos} (hN : X.N.Nodup) (he : Pee X ea Wx e m) (hi : X.N[i]? = some x := by rfl) (hx : Loc X.env.scope x := by first | exact Or.inl rfl | exact Or.inr rfl) (hs : swapsWith e (some (.Name x pos')) pos.line X.env = pure false := by rfl) (hf : X.fn x = true ∨ X.env.scope.names.lookup x = some .local := by first | exact .inl rfl | exact .inr rfl) :
    Pes X ea Wx (.Assign [.Name x pos'] e pos) (mAsg i m) := let ⟨_, p, r⟩ := he.ex; ⟨_, ps_set hN hi hx p hs hf, ref_asg i r⟩
theorem pes_asg {tg : Expr} {t : W → Mo Unit} {l : List Nat} (he : Pee X ea Wx e m) (hg : Peg X ea tg t l) (hs : swapsWithSole [tg] e pos.line X.env = pure false := by rfl) (hw : swappedStores [tg] e X.env = pure none := by rfl)
    (h1 : (assignEach [tg] X.env).map (·.2) = [assign tg X.env] := by rfl) : Pes X ea Wx (.Assign [tg] e pos) (mAsgT t m) := let ⟨_, p, r⟩ := he.ex; let ⟨_, p', r'⟩ := hg.ex; ⟨_, ps_asg p p' hs hw h1, ref_asgT r r'⟩
theorem pes_for {tg iter : Expr} {mi : Mo Wk} {t : W → Mo Unit} {l : List Nat} (hp : PassesOwn (model X.prog X.w) X.A X.env X.xe) (hi : Pei X ea Wx tg iter mi) (hg : Peg X ea tg t l) (hb : Pess X ea Wx sts f) (hc : X.calm = true := by rfl) (hs : ∀ x, foldedSetIterable iter X.env x = pure x := by intro _; rfl) :
    Pes X ea Wx (.For tg iter sts [] pos) (mFor mi t f) := let ⟨_, p, r⟩ := hi.ex; let ⟨_, p1, r1⟩ := hg.ex; let ⟨_, p2, r2⟩ := hb.ex; ⟨_, ps_for hp hc p p1 p2 hs, ref_for r r1 r2⟩
section
variable {elt tg iter : Expr} {ifs : List Expr} {scope : Scope} {own : List (Str × Nat)} {mi : Mo Wk} {t : W → Mo Unit} {l : List Nat} {me : Mo RV}
structure Pets (X : Cx) (ea : EA) (Wx : WX) (ifs : List Expr) (m : Mo Bool) : Prop where
  ex : ∃ t, PTs X ifs t ∧ RefT X.K X.mg ea Wx t m
theorem Pets.can {m : Mo Bool} (h : Pets X ea Wx ifs m) : PTs X ifs (ttOf X.K X.mg ea Wx m) := by
  obtain ⟨t, p, r⟩ := h.ex
  exact ⟨fun pins s σ H Q I ⟨io, Fr, s1, r0, s', S0, e, h1, h2⟩ => p.run pins s σ H Q I (r σ H io Fr s1 S0 r0 s' e Q h1 h2)⟩
def mYes : Mo Bool := ret true
theorem pets_nil : Pets X ea Wx [] mYes := ⟨_, pts_nil, fun σ H io Fr s S0 r0 s' e Q hok _ => by cases e; exact hok _ rfl _ _ ⟨S0, .refl⟩⟩
theorem pets_one (h : Pet X ea Wx c mt) : Pets X ea Wx [c] mt := let ⟨_, p, r⟩ := h.ex; ⟨_, pts_one p, r⟩
theorem tgN_ne (i : Nat) : ∀ w s r s', tgN i w s = some (r, s') → r = .ok () := fun w s r s' e => by cases e; rfl
theorem tgsNil_ne : ∀ w s r s', tgsNil w s = some (r, s') → r = .ok () := fun w s r s' e => by
  cases w with
  | nil => cases e; rfl
  | cons _ _ => cases e
theorem tgsCons_ne {t : W → Mo Unit} {u : List W → Mo Unit} (h : ∀ w s r s', t w s = some (r, s') → r = .ok ()) (h' : ∀ w s r s', u w s = some (r, s') → r = .ok ()) : ∀ w s r s', tgsCons t u w s = some (r, s') → r = .ok () := fun w s r s' e => by
  cases w with
  | nil => cases e
  | cons w ws =>
    rcases bnd_some e with ⟨x, e1, rfl⟩ | ⟨_, s1, e1, e2⟩
    · have := h _ _ _ _ e1
      cases this
    · exact h' _ _ _ _ e2
theorem tgT_ne {n : Nat} {u : List W → Mo Unit} (h : ∀ w s r s', u w s = some (r, s') → r = .ok ()) : ∀ w s r s', tgT n u w s = some (r, s') → r = .ok () := fun w s r s' e => by
  unfold tgT at e
  split at e
  · split at e
    · exact h _ _ _ _ e
    · cases e
  · cases e
structure Blk (X : Cx) (ea : EA) (tg elt : Expr) (ifs : List Expr) (scope : Scope) (own : List (Str × Nat)) (t : W → Mo Unit) (l : List Nat) (mt : Mo Bool) (me : Mo RV) : Prop where
  ok : BlkOk X.N X.env.scope scope own
  ne : ∀ w s r s', t w s = some (r, s') → r = .ok ()
  sub : ∀ i ∈ l, i ∈ own.map (·.2)
  tg : ∀ (s : Shared) (H : Hp) (C : Addr) (cl : List (Str × Addr)) (fp : List Addr), Peg (X.blk s H scope (compEnvC scope cl C X.env) fp) ea tg t l
  ts : ∀ (s : Shared) (H : Hp) (C : Addr) (cl : List (Str × Addr)) (fp : List Addr), Pets (X.blk s H scope (compEnvC scope cl C X.env) fp) ea W0 ifs mt
  el : ∀ (s : Shared) (H : Hp) (C : Addr) (cl : List (Str × Addr)) (fp : List Addr), Pee (X.blk s H scope (compEnvC scope cl C X.env) fp) ea W0 elt me
theorem pee_lc (hN : X.N.Nodup) (hi : Pei X ea Wx tg iter mi) (b : Blk X ea tg elt ifs scope own t l mt me) (hc : X.calm = true := by rfl) (hs : ∀ x, foldedSetIterable iter X.env x = pure x := by intro _; rfl) :
    Pee X ea Wx (.ListComp elt [⟨tg, iter, ifs, 0⟩] scope pos) (mLc (own.map (·.2)) mi t mt me) := by
  obtain ⟨wi, p, r⟩ := hi.ex
  exact ⟨_, pe_lc hc hN p b.ok (fun s H C cl fp => (b.tg s H C cl fp).can) (fun s H C cl fp => (b.ts s H C cl fp).can) (fun s H C cl fp => (b.el s H C cl fp).can) hs,
    ref_lc r (ref_gOf b.ne) b.sub (ref_ttOf _) (ref_tOf _)⟩
theorem pes_setLc (i : Nat) {y : Str} {py spos : Pos} (hN : X.N.Nodup) (hi : Pei X ea Wx tg iter mi) (b : Blk X ea tg elt ifs scope own t l mt me) (hy : X.N[i]? = some y := by rfl) (hyl : X.env.scope.names.lookup y = some .local := by rfl)
    (hsw : swapsWith (.ListComp elt [⟨tg, iter, ifs, 0⟩] scope pos) (some (.Name y py)) spos.line X.env = pure true := by exact sw_true rfl rfl rfl (by decide +kernel)) (hc : X.calm = true := by rfl) (hs : ∀ x, foldedSetIterable iter X.env x = pure x := by intro _; rfl) :
    Pes X ea Wx (.Assign [.Name y py] (.ListComp elt [⟨tg, iter, ifs, 0⟩] scope pos) spos) (mAsg i (mLc (own.map (·.2)) mi t mt me)) := by
  obtain ⟨wi, p, r⟩ := hi.ex
  exact ⟨_, ps_setLc hc hN hy hyl hsw p b.ok (fun s H C cl fp => (b.tg s H C cl fp).can) (fun s H C cl fp => (b.ts s H C cl fp).can) (fun s H C cl fp => (b.el s H C cl fp).can) hs,
    ref_asg i (ref_lc r (ref_gOf b.ne) b.sub (ref_ttOf _) (ref_tOf _))⟩
end
end
abbrev Fn := List W → List Cell → Option (Except Ex FV × List Cell)
section
variable {K : PySem.W.Frag} {mg : Str → Option Value} {ea : EA} {io io' : List Addr} {Fr Fr' : Addr → Prop} {s s' s2 : S} {σ σ' : L2.St} {H H' : Hp} {w : W} {v : V} {c : Cell} {o : HO} {a p : Addr} {ws : List W} {vs : List V} {M : Addr → Prop}
def PostXF (K : PySem.W.Frag) (mg : Str → Option Value) (io : List Addr) (M Fr : Addr → Prop) (H : Hp) (G' : List Cell) (io' : List Addr) (H' : Hp) (x : Ex) (cls : Value) (d : Option Addr) : Prop :=
  GSim K mg io' Fr G' H' ∧ Stp io M Fr H io' (Mu io' Fr) H' ∧ ExR K mg io' (Mu io' Fr) H' x cls d
def spM (K : PySem.W.Frag) (mg : Str → Option Value) (n : Nat) (m : Fn) : Sp := fun vs H Q E => vs.length = n ∧ ∃ io Fr G ws r G', GSim K mg io Fr G H ∧ Rws K mg io (Mu io Fr) H ws vs ∧ m ws G = some (r, G') ∧
  (∀ f, r = .ok f → ∀ v H' io', PostF K mg io (Mu io Fr) Fr H G' io' H' f v → Q v H') ∧ (∀ x, r = .error x → ∀ cls d H' io', PostXF K mg io (Mu io Fr) Fr H G' io' H' x cls d → E cls d H')
structure FnM (P : Program) (w : World) (K : PySem.W.Frag) (mg : Str → Option Value) (base : Heap) (k : Nat) (f : Addr) (fd : FuncData) (ps : List Str) (m : Fn) : Prop where
  ok : FnOk P w K mg base (L2.CX P w) k f fd ps (spM K mg ps.length m)
def fnM (n : Nat) (body : Mo Fl) : Fn := fun ws G => match body ⟨ws.map SV.val ++ List.replicate (n - ws.length) SV.non, G⟩ with
  | some (.ok (.rt f), s) => some (.ok f, s.G)
  | some (.ok .nx, s) => some (.ok (.val .non), s.G)
  | some (.error x, s) => some (.error x, s.G)
  | _ => none
theorem sim_start {n : Nat} {N : List Str} (hn : N.length = n) (hl : vs.length ≤ n) (g : GSim K mg io Fr s.G H) (r : Rws K mg io (Mu io Fr) H ws vs) : Sim K mg ea io Fr ⟨ws.map SV.val ++ List.replicate (n - ws.length) SV.non, s.G⟩ (L2.start N vs) H ∧
    (∀ b, Ms io Fr ⟨ws.map SV.val ++ List.replicate (n - ws.length) SV.non, s.G⟩ (L2.start N vs) b ↔ Mu io Fr b) := by
  have no : ∀ (i : Nat) (c : Cell), (ws.map SV.val ++ List.replicate (n - ws.length) SV.non)[i]? ≠ some (SV.own c) := fun i c h => by
    rcases Nat.lt_or_ge i (ws.map SV.val).length with q | q
    · rw [List.getElem?_append_left q, List.getElem?_map] at h
      cases e : ws[i]? <;> rw [e] at h <;> cases h
    · rw [List.getElem?_append_right q] at h
      have h2 := List.mem_of_getElem? h
      have h3 := List.eq_of_mem_replicate h2
      cases h3
  have fo : ∀ b, FrO Fr (ws.map SV.val ++ List.replicate (n - ws.length) SV.non) (L2.start N vs) b ↔ Fr b := fun b => ⟨fun z => z.elim id fun ⟨i, c, h, _⟩ => (no i c h).elim, .inl⟩
  have mo : ∀ b, Ms io Fr ⟨ws.map SV.val ++ List.replicate (n - ws.length) SV.non, s.G⟩ (L2.start N vs) b ↔ Mu io Fr b := fun b => ⟨fun z => z.imp id (fo b).1, fun z => z.imp id .inl⟩
  refine ⟨⟨?_, g.less (s := s) fun b z => (fo b).1 z, fun i u e => ?_, fun i c e => (no i c e).elim, fun i j c d a e => (no i c e).elim, fun i y e => ?_⟩, mo⟩
  · simp only [L2.start, List.length_append, List.length_map, List.length_replicate, hn]
    have := r.1
    omega
  · have hi : i < (ws.map SV.val).length := by
      rcases Nat.lt_or_ge i (ws.map SV.val).length with q | q
      · exact q
      · simp only at e
        rw [List.getElem?_append_right q] at e
        have h3 := List.eq_of_mem_replicate (List.mem_of_getElem? e)
        cases h3
    simp only at e
    rw [List.getElem?_append_left hi, List.getElem?_map] at e
    cases q : ws[i]? with
    | none => rw [q] at e; cases e
    | some u' =>
      rw [q] at e
      cases e
      obtain ⟨v, h1, h2⟩ := r.get q
      have hv := get_lt h1
      refine ⟨v, ?_, h2.pers (.less fun b z => (mo b).1 z)⟩
      unfold L2.start
      rw [List.getElem?_append_left (by simpa using hv), List.getElem?_map, h1]
      rfl
  · exfalso
    simp only at e
    rcases Nat.lt_or_ge i (ws.map SV.val).length with q | q
    · rw [List.getElem?_append_left q, List.getElem?_map] at e
      cases k : ws[i]? <;> rw [k] at e <;> cases e
    · rw [List.getElem?_append_right q] at e
      have h3 := List.eq_of_mem_replicate (List.mem_of_getElem? e)
      cases h3
theorem defM {P : Program} {w : World} {base : Heap} {x qual : Str} {st : Stmt} {f : Addr} {fd : FuncData} {N ps : List Str} {k n : Nat} {body : Mo Fl} (F : Fun K x qual st f fd) (S : FnScope N ps (defScope st)) (hn : N.length = n)
    (hb : ∀ (cdv : Value) (A : Around) (outer : List Env) (s : Shared) (H : Hp) (E : XK), Room k (A.deeper (envOfC qual (defScope st) s.heap.objs.size f cdv)) →
      Pess (cxOf (L2.CX P w) P w K mg base N qual (defScope st) f cdv A outer s H E) ea0 (fun cls d _ H => E cls d H) (defBody st) body) : FnM P w K mg base (k + 1) f fd ps (fnM n body) := by
  refine ⟨F.okX S (fun vs H Q E h => h.1) fun cdv A outer s H vs Q E hr h => ?_⟩
  obtain ⟨hl, io, Fr, G, ws, r, G', g, R, e, hok, hex⟩ := h
  obtain ⟨t, p, rf⟩ := (hb cdv A outer s H E hr).ex
  refine ⟨t, p, ?_⟩
  have hps : ps.length ≤ n := by
    have := congrArg List.length S.pre
    rw [List.length_take] at this
    omega
  obtain ⟨S0, mo⟩ := sim_start (ea := ea0) (s := ⟨[], G⟩) hn (by omega) g R
  unfold fnM at e
  have T0 : ∀ {M' : Addr → Prop} {io' : List Addr} {H' : Hp}, Stp io (Ms io Fr ⟨ws.map SV.val ++ List.replicate (n - ws.length) SV.non, G⟩ (L2.start N vs)) Fr H io' M' H' → Stp io (Mu io Fr) Fr H io' M' H' := fun T =>
    (Stp.refl.less fun b z => (mo b).1 z : Stp io (Mu io Fr) Fr H io (Ms io Fr ⟨ws.map SV.val ++ List.replicate (n - ws.length) SV.non, G⟩ (L2.start N vs)) H).trans T
  cases k : body ⟨ws.map SV.val ++ List.replicate (n - ws.length) SV.non, G⟩ with
  | none => rw [k] at e; cases e
  | some pr =>
    obtain ⟨rb, sb⟩ := pr
    rw [k] at e
    refine rf _ _ _ _ _ S0 _ _ k _ (fun q σ' H' io' px => ?_) (fun q σ' H' io' px => ?_) (fun q σ' H' io' px => ?_) (fun f q v H' io' px => ?_) fun xx q cls d σ' H' io' px => ?_
    · subst q
      cases e
      exact hok _ rfl _ _ _ ⟨px.1.g.less (s := sb) fun b z => .inl z, (T0 px.2).less fun b z => z.imp id .inl, .non⟩
    · subst q; cases e
    · subst q; cases e
    · subst q
      cases e
      cases f with
      | val w => exact hok _ rfl v H' io' ⟨px.1, T0 px.2.1, px.2.2⟩
      | own c =>
        obtain ⟨a, o, h1, h2, h3, h4, h5, h6⟩ := px
        exact hok _ rfl v H' io' ⟨a, o, h1, h2, h3, h4, T0 h5, h6⟩
    · subst q
      cases e
      obtain ⟨x1, x2, C, x3, x4, x5⟩ := px
      have le : ∀ b, Mu io' Fr b → Ms io' Fr sb σ' b := fun b z => z.imp id .inl
      refine hex _ rfl cls d H' io' ⟨x1.g.less (s := sb) fun b z => .inl z, (T0 x2).less le, C, x3, x4, x5.imp id ?_⟩
      rintro ⟨dd, us, y1, y2, y3, y4⟩
      exact ⟨dd, us, y1, y2, fun z => y3 (le _ z), y4.pers (.less le)⟩
def rvOf : FV → RV
  | .val w => .val w
  | .own c => .own c
def callG (m : Fn) (ws : List W) : Mo RV := fun s => match m ws s.G with
  | some (.ok f, G') => some (.ok (rvOf f), { s with G := G' })
  | some (.error x, G') => some (.error x, { s with G := G' })
  | none => none
theorem ExR.congr {x : Ex} {cls : Value} {d : Option Addr} {M M' : Addr → Prop} (h : ∀ b, M' b → M b) (e : ExR K mg io M H x cls d) : ExR K mg io M' H x cls d := by
  obtain ⟨C, x3, x4, x5⟩ := e
  refine ⟨C, x3, x4, x5.imp id ?_⟩
  rintro ⟨dd, us, y1, y2, y3, y4⟩
  exact ⟨dd, us, y1, y2, fun z => y3 (h _ z), y4.pers (.less h)⟩
theorem fro_pls {r : List SV} : ∀ b, FrO (pls Fr a) r σ b ↔ pls (FrO Fr r σ) a b := fun b => by
  constructor
  · rintro ((z | z) | z)
    · exact .inl (.inl z)
    · exact .inr z
    · exact .inl (.inr z)
  · rintro ((z | z) | z)
    · exact .inl (.inl z)
    · exact .inr z
    · exact .inl (.inr z)
theorem spM_use {Wx : WX} {n : Nat} {m : Fn} (S0 : Sim K mg ea io Fr s σ H) (R : Rws K mg io (Ms io Fr s σ) H ws vs) (hn : vs.length = n) {r : Except Ex RV} (e : callG m ws s = some (r, s')) {Q : VK}
    (hok : ∀ x, r = .ok x → ∀ v H' io', PostE K mg ea io Fr s σ H s' io' H' x v → Q v H') (hex : ∀ x, r = .error x → ∀ cls d H' io', PostX K mg ea io Fr s σ H s' σ io' H' x cls d → Wx cls d σ H') : spM K mg n m vs H Q (WE Wx σ) := by
  unfold callG at e
  have nown : ∀ a (i : Nat) c, s.r[i]? = some (.own c) → σ[i]? = some (some (V.ref a)) → ¬ Fr a := fun a i c h1 h2 => by
    obtain ⟨b, o, q1, _, _, q4⟩ := S0.own i c h1
    rw [h2] at q1; cases q1
    exact q4
  split at e
  · rename_i f G' k
    cases e
    refine ⟨hn, io, FrO Fr s.r σ, s.G, ws, _, G', S0.g, R, k, fun f' q v H' io' p => ?_, (fun _ q => by cases q)⟩
    cases q
    cases f with
    | val w =>
      obtain ⟨g, T, r⟩ := p
      exact hok _ rfl v H' io' ⟨S0.call g T nown, T.frless fun b z => .inl z, r⟩
    | own c =>
      obtain ⟨a, o, rfl, ha, nf, g, T, r⟩ := p
      have g' : GSim K mg io' (FrO (pls Fr a) s.r σ) G' H' := g.less (s := { s with G := G' }) fun b z => (fro_pls b).1 z
      have le : ∀ b, Mu io' (FrO (pls Fr a) s.r σ) b → Mu io' (pls (FrO Fr s.r σ) a) b := fun b z => z.imp id (fro_pls b).1
      refine hok _ rfl _ H' io' ⟨a, o, rfl, ha, nf, S0.call g' (T.less le) fun b i c h1 h2 z => ?_, (T.less le).frless fun b z => .inl z, r.pers (.less le)⟩
      rcases z with z | z
      · exact nown b i c h1 h2 z
      · subst z
        exact nf (.inr ⟨i, c, h1, h2⟩)
  · rename_i x G' k
    cases e
    refine ⟨hn, io, FrO Fr s.r σ, s.G, ws, _, G', S0.g, R, k, (fun _ q => by cases q), fun x' q cls d H' io' p => ?_⟩
    cases q
    exact hex _ rfl cls d H' io' ⟨S0.call p.1 p.2.1 nown, p.2.1.frless fun b z => .inl z, p.2.2⟩
  · cases e
def mCall (n : Nat) (m : Fn) (ms : Mo (List RV)) : Mo RV := bnd ms fun xs => bnd (freezeAll xs) fun ws => if ws.length = n then callG m ws else stk
theorem ref_call {Wx : WX} {n : Nat} {m : Fn} {ta : TA} {ms : Mo (List RV)} (ha : RefA K mg ea Wx ta ms) : RefE K mg ea Wx (tCallS (spM K mg n m) (WE Wx) ta) (mCall n m ms) := by
  intro σ H io Fr s S0 r0 s' e Q hok hex
  refine arg2 ha S0 e hex fun xs vs s1 H1 io1 e2 px R1 => ?_
  rcases bnd_some e2 with ⟨x, e3, rfl⟩ | ⟨ws, s2, e3, e4⟩
  · obtain ⟨_, _, _, _, q, _⟩ := freezeAll_ok px.1 R1 e3
    cases q
  · obtain ⟨_, m2, S2, ws', q, r2⟩ := freezeAll_ok px.1 R1 e3
    cases q
    split at e4
    · rename_i hn
      have T2 := px.2.less m2
      exact spM_use S2 r2 (by rw [← r2.1]; exact hn) e4 (fun x q v H' io' p => hok x q v H' io' (p.trans T2)) fun x q cls d H' io' p => hex x q cls d H' io' ⟨p.1, T2.trans p.2.1, p.2.2⟩
    · cases e4
end
section
variable {X : Cx} {ea : EA} {Wx : WX} {e : Expr} {es : List Expr} {ms : Mo (List RV)} {m : Fn} {k : Nat} {f : Addr} {fd : FuncData} {ps : List Str} {x : Str} {p pos : Pos}
theorem pee_call (F : FnM X.prog X.w X.K X.mg X.base k f fd ps m) (hr : Room k X.A) (hm : X.mg x = some (.ref f)) (hk : PySem.W.keepIn X.K (.ref f) = true) (hb : Binds X.K fd ps []) (tk : Takes X Wx) (ha : Pea X ea Wx (e :: es) ms)
    (hg : Gl X x := by rfl) (hdb : (x == ("__debug__" : Str)) = false := by decide) (he : starEach (e :: es) X.env = (false, eval e X.env) :: starEach es X.env := by rfl) (hpl : (backTo pos (starEach es X.env)).any (·.1) = false := by rfl) :
    Pee X ea Wx (.Call (.Name x p) (e :: es) [] pos) (mCall ps.length m ms) := by
  obtain ⟨t, q, r⟩ := ha.ex
  exact ⟨_, pe_callS F.ok hr hg hm hk hb (fun σ => passAt tk σ) q hdb he hpl, ref_call r⟩
end
end Z
set_option Elab.async false
set_option linter.all false
set_option maxRecDepth 100000
namespace Z
open PySem PySem.Spec PyProof.Rows L2
section
variable {X : Cx} {CX : CXT} {k : Nat} {f C : Addr} {fd : FuncData} {ps : List Str} {sp : Sp} {dvs : List V} {ds : List Value} {E : L2.St → XK} {x m : Str} {p pos apos : Pos} {e o : Expr} {es : List Expr} {ta : TE} {t : TA}
def tMethS (C : Addr) (m : Str) (sp : Sp) (dvs : List V) (E : L2.St → XK) (ta : TE) (t : TA) : TE := fun σ H Q => ta σ H fun x H1 => ∃ a dx fs, x = .ref a ∧ H1 a = some (.ins C dx fs) ∧ fs.lookup m = none ∧ t σ H1 fun vs H2 => sp (.ref a :: (vs ++ dvs)) H2 Q (E σ)
abbrev MethRead (X : Cx) (o : Expr) (m : Str) (apos pos : Pos) (args : List Expr) (pl : Sem Bool) : Prop := eval (.Call (.Attribute o m apos) args [] pos) X.env = (do
  let ov ← eval o X.env
  standAt apos.atName
  let (g, us) ← holding [ov] (getMethod ov m pl)
  callWith pos g us (backTo pos (starEach args X.env)) (backToKw pos (keywordEach [] X.env)))
theorem meth_go {pl : Sem Bool} {args : List Expr} (he : PE X o ta) (c : Cls X.K C) (hm : Meth X.K C m f) (ht : MethRead X o m apos pos args pl) {pins : List (Addr × Obj)} {s : Shared} {σ : L2.St} {H : Hp} {Q : VK} {T : Addr → Hp → Prop} (I : Inv X pins σ H s)
    (h : ta σ H fun x H1 => ∃ a dx fs, x = .ref a ∧ H1 a = some (.ins C dx fs) ∧ fs.lookup m = none ∧ T a H1)
    (go : ∀ a s1 H1, Inv X pins σ H1 s1 → T a H1 → wpAny (model X.prog X.w) X.A (callWith pos (.ref f) [.ref a] (backTo pos (starEach args X.env)) []) (EP X pins σ Q) X.xe s1) :
    wpAny (model X.prog X.w) X.A (eval (.Call (.Attribute o m apos) args [] pos) X.env) (EP X pins σ Q) X.xe s := by
  apply PySem.W.methodCall_KW (pl := pl) _ ht
  apply thn (he.run pins s σ H _ I h)
  rintro _ s1 ⟨_, H1, J, e, a, dx, fs, rfl, e1, e2, q⟩
  cases e
  exact getmeth_ok J e1 c hm e2 (go a s1 H1 J q)
theorem args_go {g : Addr} {first : List Value} (kp : PySem.W.keepIn X.K (.ref g) = true) (ha : PA X (e :: es) t) (hst : starEach (e :: es) X.env = (false, eval e X.env) :: starEach es X.env) (hpl : (backTo pos (starEach es X.env)).any (·.1) = false)
    {pins : List (Addr × Obj)} {s : Shared} {σ : L2.St} {H : Hp} {Q : Value → Shared → Prop} {T : List V → Hp → Prop} (I : Inv X pins σ H s) (h : t σ H T)
    (go : ∀ us vs s1 H1, Inv X pins σ H1 s1 → Vals vs us → T vs H1 → wpAny (model X.prog X.w) X.A (call (.ref g) (first ++ us)) Q X.xe s1) :
    wpAny (model X.prog X.w) X.A (callWith pos (.ref g) first (backTo pos (starEach (e :: es) X.env)) []) Q X.xe s := by
  apply PySem.W.callWith_K I.ok.mod.kin kp _ hst hpl
  apply thn (ha.run pos pins s σ H _ I h)
  rintro us s1 ⟨vs, H1, J, r, q⟩
  exact ⟨J.kIn, go us vs s1 H1 J r q⟩
theorem pe_methS {pl : Sem Bool} (he : PE X o ta) (c : Cls X.K C) (hm : Meth X.K C m f) (F : FnOk X.prog X.w X.K X.mg X.base CX k f fd ps sp) (hr : Room k X.A) (hb : Binds X.K fd ps ds) (hd : Vals dvs ds) (hx : ∀ σ, PassesAt CX X σ (E σ)) (ha : PA X (e :: es) t)
    (hst : starEach (e :: es) X.env = (false, eval e X.env) :: starEach es X.env) (hpl : (backTo pos (starEach es X.env)).any (·.1) = false) (ht : MethRead X o m apos pos (e :: es) pl) : PE X (.Call (.Attribute o m apos) (e :: es) [] pos) (tMethS C m sp dvs E ta t) :=
  ⟨fun pins s σ H Q I h => meth_go he c hm ht I h fun a s1 H1 J q => args_go hm.kp ha hst hpl J q fun us vs s2 H2 J2 r q2 => run_fnSD (us := .ref a :: us) (vs := .ref a :: vs) F hr hb hd (hx σ) J2 (.cons rfl r) q2⟩
theorem pe_methS0 {pl : Sem Bool} (he : PE X o ta) (c : Cls X.K C) (hm : Meth X.K C m f) (F : FnOk X.prog X.w X.K X.mg X.base CX k f fd ps sp) (hr : Room k X.A) (hb : Binds X.K fd ps ds) (hd : Vals dvs ds) (hx : ∀ σ, PassesAt CX X σ (E σ)) (ht : MethRead X o m apos pos [] pl) :
    PE X (.Call (.Attribute o m apos) [] [] pos) (tMethS C m sp dvs E ta tNil) :=
  ⟨fun pins s σ H Q I h => meth_go he c hm ht I h fun a s1 H1 J q => PySem.W.callWith_K0 J.kIn hm.kp (run_fnSD (us := [.ref a]) (vs := [.ref a]) F hr hb hd (hx σ) J (.cons rfl .nil) q)⟩
theorem run_makeS {pins : List (Addr × Obj)} {σ : L2.St} {H : Hp} {s : Shared} {Q : VK} {us : List Value} {vs : List V} (M : Mk X.K C f) (F : FnOk X.prog X.w X.K X.mg X.base CX k f fd ps sp) (hr : Room (k + 1) X.A) (hb : Binds X.K fd ps ds) (hd : Vals dvs ds)
    (hx : PassesAt CX X σ (E σ)) (I : Inv X pins σ H s) (r : Vals vs us)
    (h : ∀ x dx, H x = none → H dx = none → dx ≠ x → sp (.ref x :: (vs ++ dvs)) (upd (upd H dx (.own x)) x (.ins C dx [])) (fun v H2 => v = .non ∧ Q (.ref x) H2) (E σ)) : wpAny (model X.prog X.w) X.A (call (.ref C) us) (EP X pins σ Q) X.xe s := by
  generalize hn : s.heap.objs.size = n
  have new : ∀ j, n ≤ j → H j = none := fun j le => I.hok.fresh (by rw [hn]; exact le)
  have q := h (n + 1) n (new _ (Nat.le_succ n)) (new _ (Nat.le_refl n)) (Nat.ne_of_lt (Nat.lt_succ_self n))
  have J := Inv.made (C := C) I
  have all : Vals (V.ref (n + 1) :: (vs ++ dvs)) (Value.ref (n + 1) :: (us ++ ds)) := .cons rfl (r.append hd)
  have many : (Value.ref (n + 1) :: us ++ ds).length = ps.length := by simpa using all.length.symm.trans (F.len _ _ _ _ q)
  rw [hn] at J
  have body := F.run _ X.stack _ _ ⟨Value.ref (n + 1) :: us, []⟩ (Value.ref (n + 1) :: (us ++ ds)) _ _ (E σ) (hr.make C us []) (J.env0.make C us []) (hb _ (Value.ref (n + 1) :: us) J.kIn many) all q
  subst hn
  refine wpAny_call (make_map (f := f) I.kIn M.makes M.init (beq_iff_eq.mp M.fn) (codeAny_mono body ?_))
  rintro (er | (_ | _ | _ | u)) s' z
  · exact hx pins _ _ er s' J z
  · exact z.elim
  · exact z.elim
  · exact z.elim
  · obtain ⟨_, H', J', rv, rfl, q'⟩ := J.after z
    exact ⟨rv, V.ref _, H', J', rfl, q'⟩
def tMakeS (C : Addr) (sp : Sp) (dvs : List V) (E : L2.St → XK) (t : TA) : TE := fun σ H Q => t σ H fun vs H1 => ∀ x dx, H1 x = none → H1 dx = none → dx ≠ x → sp (.ref x :: (vs ++ dvs)) (upd (upd H1 dx (.own x)) x (.ins C dx [])) (fun v H2 => v = .non ∧ Q (.ref x) H2) (E σ)
theorem pe_makeS (M : Mk X.K C f) (F : FnOk X.prog X.w X.K X.mg X.base CX k f fd ps sp) (hr : Room (k + 1) X.A) (hg : Gl X x) (hm : X.mg x = some (.ref C)) (hb : Binds X.K fd ps ds) (hd : Vals dvs ds) (hx : ∀ σ, PassesAt CX X σ (E σ))
    (ha : PA X (e :: es) t) (hdb : (x == ("__debug__" : Str)) = false := by decide) (hst : starEach (e :: es) X.env = (false, eval e X.env) :: starEach es X.env := by rfl) (hpl : (backTo pos (starEach es X.env)).any (·.1) = false := by rfl) :
    PE X (.Call (.Name x p) (e :: es) [] pos) (tMakeS C sp dvs E t) :=
  ⟨fun _ _ σ _ _ I h => wpAny_Call_Name_kw (ld_glob I hg hm (args_go M.kp ha hst hpl I h fun _ _ _ _ J r q => run_makeS M F hr hb hd (hx σ) J r q) hdb)⟩
end
section
variable {K : PySem.W.Frag} {mg : Str → Option Value} {ea : EA} {io io' : List Addr} {Fr Fr' : Addr → Prop} {s s' s2 : S} {σ σ' : L2.St} {H H' : Hp} {w : W} {v : V} {c : Cell} {o : HO} {a p C : Addr} {ws : List W} {vs : List V} {M M' : Addr → Prop} {Wx : WX}
def ClsN (K : PySem.W.Frag) (mg : Str → Option Value) (nms : List Str) (f : Str) : Prop := ∀ nm ∈ nms, ∃ C, mg nm = some (.ref C) ∧ Cls K C ∧ NoAttr K C f
def fFld (nms : List Str) (f : Str) : W → Option OR
  | .obj nm fs => if nm ∈ nms then (fs.lookup f).map .imm else none
  | _ => none
def tFldU (K : PySem.W.Frag) (f : Str) : V → Hp → VK → Prop := fun x H Q => ∃ a C dx fs v, x = .ref a ∧ H a = some (.ins C dx fs) ∧ Cls K C ∧ NoAttr K C f ∧ fs.lookup f = some v ∧ Q v H
theorem fld_hr {nms : List Str} {f : Str} (hF : ClsN K mg nms f) : ∀ io M H x vx z Q, Rn K mg io M H x vx → fFld nms f x = some z → OQ K mg io M H z Q → tFldU K f vx H Q := by
  intro io M H x vx z Q rx e q
  unfold fFld at e
  split at e
  · split at e
    · rename_i hin
      obtain ⟨w, e1, rfl⟩ := Option.map_eq_some_iff.mp e
      obtain ⟨a, C, dx, vs, rfl, hm, ha, r⟩ := rx.obj
      obtain ⟨C', hm', hc, hn⟩ := hF _ hin
      rw [hm] at hm'
      cases hm'
      obtain ⟨v, h1, h2⟩ := Rkv.lookup (vs := vs) r e1
      exact ⟨a, C, dx, vs, v, rfl, ha, hc, hn, h1, q v h2⟩
    · cases e
  · cases e
theorem nodup_ixA {N : List Addr} (hN : N.Nodup) {i j : Nat} {x : Addr} (a : N[i]? = some x) (b : N[j]? = some x) : i = j := by
  induction N generalizing i j with
  | nil => simp at a
  | cons y N ih =>
    obtain ⟨h1, h2⟩ := List.nodup_cons.mp hN
    cases i with
    | zero =>
      cases j with
      | zero => rfl
      | succ j =>
        simp at a b
        subst a
        exact absurd (List.mem_of_getElem? b) h1
    | succ i =>
      cases j with
      | zero =>
        simp at a b
        subst b
        exact absurd (List.mem_of_getElem? a) h1
      | succ j =>
        simp at a b
        rw [ih h2 a b]
theorem Sim.setCell {n : Nat} {o' : HO} {c' : Cell} (x : Sim K mg ea io Fr s σ H) (hn : io[n]? = some a) (h : ∀ {H' : Hp}, Pers io (Ms io Fr s σ) H io (Ms io Fr s σ) H' → Rc K mg io (Ms io Fr s σ) H' c' o') :
    Sim K mg ea io Fr { s with G := s.G.set n c' } σ (upd H a o') ∧ Stp io (Ms io Fr s σ) Fr H io (Ms io Fr s σ) (upd H a o') := by
  have ain : a ∈ io := List.mem_of_getElem? hn
  have aM : Ms io Fr s σ a := .inl ain
  have nF : ¬ FrO Fr s.r σ a := x.g.dj a ain
  have q : Pers io (Ms io Fr s σ) H io (Ms io Fr s σ) (upd H a o') := ⟨fun b u e hb => by rw [upd_ne (fun z => by subst z; exact hb aM)]; exact e, fun b z => .inl z, fun _ _ e => e⟩
  refine ⟨⟨x.len, ⟨by simp [x.g.len], fun m b c h1 h2 => ?_, x.g.nd, x.g.dj, fun b z => ?_⟩, fun i w e => ?_, fun i c e => ?_, x.dist, fun i e k => let ⟨h1, h2⟩ := x.exc i e k; ⟨h1, h2.pers q⟩⟩, q, fun b z => ?_, fun b u e => ?_⟩
  · by_cases hm : n = m
    · subst hm
      rw [hn] at h1
      cases h1
      have hl := get_lt h2
      simp only [List.length_set] at hl
      rw [List.getElem?_set_self hl] at h2
      cases h2
      exact ⟨o', upd_same, h q⟩
    · rw [List.getElem?_set_ne hm] at h2
      obtain ⟨u, e, r⟩ := x.g.cell m b c h1 h2
      have nb : b ≠ a := fun z => by
        subst z
        exact hm (nodup_ixA x.g.nd hn h1)
      exact ⟨u, by rw [upd_ne nb]; exact e, r.pers q⟩
  · obtain ⟨u, e, n⟩ := x.g.fr b z
    exact ⟨u, by rw [upd_ne (fun e => by subst e; exact nF z)]; exact e, n⟩
  · obtain ⟨v, h1, h2⟩ := x.val i w e
    exact ⟨v, h1, h2.pers q⟩
  · obtain ⟨b, u, h1, h2, h3, h4⟩ := x.own i c e
    exact ⟨b, u, h1, by rw [upd_ne (fun z => by subst z; exact nF (.inr ⟨i, c, e, h1⟩))]; exact h2, h3.pers q, h4⟩
  · rw [upd_ne (fun e => by subst e; exact nF (.inl z))]
  · by_cases e' : b = a
    · exact ⟨o', by rw [e', upd_same]⟩
    · exact ⟨u, by rw [upd_ne e']; exact e⟩
def putFW (f : Str) (w : W) : List (Str × W) → List (Str × W)
  | [] => [(f, w)]
  | (g, x) :: r => if g = f then (g, w) :: r else (g, x) :: putFW f w r
theorem Rkv.putF {f : Str} (h : Rw K mg io M H w v) : ∀ {ws : List (Str × W)} {vs : List (Str × V)}, Rkv K mg io M H ws vs → Rkv K mg io M H (putFW f w ws) (L2.putF f v vs)
  | [], vs, r => by rw [r.nil_inv]; exact Rkv.cons h Rkv.nil
  | (g, x) :: ws, vs, r => by
    obtain ⟨u, t, rfl, h1, h2⟩ := r.cons_inv
    rw [show putFW f w ((g, x) :: ws) = (if g = f then (g, w) :: ws else (g, x) :: putFW f w ws) from rfl, show L2.putF f v ((g, u) :: t) = (if g = f then (g, v) :: t else (g, u) :: L2.putF f v t) from rfl]
    by_cases e : g = f
    · rw [if_pos e, if_pos e]; exact Rkv.cons h h2
    · rw [if_neg e, if_neg e]; exact Rkv.cons h1 (Rkv.putF h h2)
def putFld (nms : List Str) (f : Str) (w : W) : RV → Mo Fl
  | .val (.ref n) => fun s => match s.G[n]? with
    | some (.ins nm fs) => if nm ∈ nms ∧ fs.length < 1000 then some (.ok .nx, { s with G := s.G.set n (.ins nm (putFW f w fs)) }) else none
    | _ => none
  | _ => stk
def mSetF (nms : List Str) (f : Str) (mo mv : Mo RV) : Mo Fl := bnd mv fun y => bnd (freeze (settle y)) fun wy => bnd mo fun x => putFld nms f wy x
theorem ref_setF {nms : List Str} {f : Str} (hF : ClsN K mg nms f) {ta tv : TE} {mo mv : Mo RV} (ho : RefE K mg ea Wx ta mo) (hv : RefE K mg ea Wx tv mv) : RefS K mg ea Wx (sFld K ta tv f) (mSetF nms f mo mv) := by
  intro σ H io Fr s S0 r0 s' e D hnx hbk hct hrt hex
  refine one2 hv S0 e (fun x q cls d H' io' px => hex x q cls d σ H' io' px) fun y vy s1 H1 io1 e2 px => ?_
  obtain ⟨S1, T1, R1⟩ := px.settled
  rcases bnd_some e2 with ⟨z, e3, _⟩ | ⟨wy, s3, e3, e4⟩
  · obtain ⟨_, _, _, _, q, _⟩ := freeze_ok S1 R1 e3
    cases q
  · obtain ⟨_, l3, S3, w', q, R3⟩ := freeze_ok S1 R1 e3
    cases q
    have T3 := T1.less l3
    refine one2 ho S3 e4 (fun x q cls d H' io' px => hex x q cls d σ H' io' ⟨px.1, T3.trans px.2.1, px.2.2⟩) fun x vx s4 H4 io4 e5 p4 => ?_
    unfold putFld at e5
    split at e5
    · rename_i n
      obtain ⟨S4, T4, R4⟩ := p4
      split at e5
      · rename_i nm fs hG
        split at e5
        · rename_i hc
          cases R4 with
          | ref hn =>
            rename_i a
            obtain ⟨o, ha, C, dx, us, rfl, hm, rk⟩ := S4.g.cell n a _ hn hG
            obtain ⟨C', hm', hcl, hno⟩ := hF _ hc.1
            rw [hm] at hm'
            cases hm'
            have R5 := R3.pers T4.p
            obtain ⟨S5, T5⟩ := S4.setCell (c' := .ins nm (putFW f wy fs)) (o' := .ins C dx (L2.putF f vy us)) hn fun {H'} p => ⟨C, dx, _, rfl, hm, Rkv.putF (R5.pers p) (Rkv.pers p rk)⟩
            refine ⟨a, C, dx, us, rfl, ha, hcl, hno, by rw [← rk.length]; exact hc.2, ?_⟩
            cases e5
            exact hnx rfl _ _ io4 ⟨S5, (T3.trans T4).trans T5⟩
        · cases e5
      · cases e5
    · cases e5
def chk (nm mn : Str) (w : W) : Mo Unit := fun s => match derefW s w with
  | some (.obj nm' fs) => if nm' = nm ∧ fs.lookup mn = none then some (.ok (), s) else none
  | _ => none
def mMeth (nm mn : Str) (n : Nat) (m : Fn) (ds : List W) (mo : Mo RV) (ms : Mo (List RV)) : Mo RV := bnd mo fun x => bnd (freeze (settle x)) fun w => bnd (chk nm mn w) fun _ => bnd ms fun xs => bnd (freezeAll xs) fun ws =>
  if (w :: (ws ++ ds)).length = n then callG m (w :: (ws ++ ds)) else stk
def Dfl (K : PySem.W.Frag) (mg : Str → Option Value) (ds : List W) (dvs : List V) : Prop := ∀ io M H, Rws K mg io M H ds dvs
theorem Dfl.nil : Dfl K mg [] [] := fun _ _ _ => Rws.nil
theorem ref_meth {n : Nat} {m : Fn} {nm mn : Str} {ta : TE} {t : TA} {mo : Mo RV} {ms : Mo (List RV)} {ds : List W} {dvs : List V} (hC : mg nm = some (.ref C)) (hd : Dfl K mg ds dvs) (ho : RefE K mg ea Wx ta mo) (ha : RefA K mg ea Wx t ms) :
    RefE K mg ea Wx (tMethS C mn (spM K mg n m) dvs (WE Wx) ta t) (mMeth nm mn n m ds mo ms) := by
  intro σ H io Fr s S0 r0 s' e Q hok hex
  refine one2 ho S0 e hex fun x vx s1 H1 io1 e2 px => ?_
  obtain ⟨S1, T1, R1⟩ := px.settled
  rcases bnd_some e2 with ⟨z, e3, _⟩ | ⟨w, s2, e3, e4⟩
  · obtain ⟨_, _, _, _, q, _⟩ := freeze_ok S1 R1 e3
    cases q
  · obtain ⟨_, l2, S2, w', q, R2⟩ := freeze_ok S1 R1 e3
    cases q
    have T2 := T1.less l2
    rcases bnd_some e4 with ⟨z, e5, _⟩ | ⟨u, s3, e5, e6⟩
    · unfold chk at e5
      split at e5
      · split at e5 <;> cases e5
      · cases e5
    · unfold chk at e5
      split at e5
      · rename_i nm' fs hd'
        split at e5
        · rename_i hc
          cases e5
          obtain ⟨rfl, hlk⟩ := hc
          obtain ⟨a, C', dx, us, rfl, hm, hH, rk⟩ := (deref_ok S2 R2 hd').obj
          rw [hC] at hm
          cases hm
          refine ⟨a, dx, us, rfl, hH, Rkv.lookup_none rk hlk, ?_⟩
          refine arg2 ha S2 e6 (fun x q cls d H' io' p => hex x q cls d H' io' ⟨p.1, T2.trans p.2.1, p.2.2⟩) fun xs vs s4 H4 io4 e7 p4 R4 => ?_
          rcases bnd_some e7 with ⟨x, e8, rfl⟩ | ⟨ws, s5, e8, e9⟩
          · obtain ⟨_, _, _, _, q, _⟩ := freezeAll_ok p4.1 R4 e8
            cases q
          · obtain ⟨_, m5, S5, ws', q, r5⟩ := freezeAll_ok p4.1 R4 e8
            cases q
            split at e9
            · rename_i hn
              have T5 := (T2.trans p4.2).less m5
              have R5 := (R2.pers p4.2.p).pers (.less m5)
              have RR := Rws.cons R5 (r5.append (hd _ _ _))
              exact spM_use S5 RR (by rw [← RR.1]; exact hn) e9 (fun x q v H' io' p => hok x q v H' io' (p.trans T5)) fun x q cls d H' io' p => hex x q cls d H' io' ⟨p.1, T5.trans p.2.1, p.2.2⟩
            · cases e9
        · cases e5
      · cases e5
end
section
variable {X : Cx} {ea : EA} {Wx : WX} {e o : Expr} {es : List Expr} {mo mv : Mo RV} {ms : Mo (List RV)} {m : Fn} {k : Nat} {f C : Addr} {fd : FuncData} {ps : List Str} {x nm fl mn : Str} {p pos apos tpos : Pos} {nms : List Str} {ds : List Value} {dw : List W} {dvs : List V}
theorem pee_fld (hF : ClsN X.K X.mg nms fl) (ho : Pee X ea Wx o mo) (hb : attributeBase o fl X.env (eval o X.env) = eval o X.env := by rfl) : Pee X ea Wx (.Attribute o fl pos) (mUn (fFld nms fl) mo) := by
  obtain ⟨t, q, r⟩ := ho.ex
  exact ⟨_, pe_fld q hb, ref_un (r := tFldU X.K fl) (fld_hr hF) r⟩
theorem pes_fld (hF : ClsN X.K X.mg nms fl) (ho : Pee X ea Wx o mo) (hv : Pee X ea Wx e mv) (hs : swapsWith e (some (.Attribute o fl tpos)) pos.line X.env = pure false := by rfl) : Pes X ea Wx (.Assign [.Attribute o fl tpos] e pos) (mSetF nms fl mo mv) := by
  obtain ⟨t, q, r⟩ := ho.ex
  obtain ⟨t', q', r'⟩ := hv.ex
  exact ⟨_, ps_fld q q' hs, ref_setF hF r r'⟩
theorem pee_meth {pl : Sem Bool} (hC : X.mg nm = some (.ref C)) (c : Cls X.K C) (hm : Meth X.K C mn f) (F : FnM X.prog X.w X.K X.mg X.base k f fd ps m) (hr : Room k X.A) (hb : Binds X.K fd ps ds) (hd : Vals dvs ds) (hw : Dfl X.K X.mg dw dvs) (tk : Takes X Wx) (ho : Pee X ea Wx o mo) (ha : Pea X ea Wx (e :: es) ms)
    (hst : starEach (e :: es) X.env = (false, eval e X.env) :: starEach es X.env := by rfl) (hpl : (backTo pos (starEach es X.env)).any (·.1) = false := by rfl)
    (ht : MethRead X o mn apos pos (e :: es) pl := by rfl) :
    Pee X ea Wx (.Call (.Attribute o mn apos) (e :: es) [] pos) (mMeth nm mn ps.length m dw mo ms) := by
  obtain ⟨t, q, r⟩ := ho.ex
  obtain ⟨t', q', r'⟩ := ha.ex
  exact ⟨_, pe_methS q c hm F.ok hr hb hd (fun σ => passAt tk σ) q' hst hpl ht, ref_meth hC hw r r'⟩
theorem pee_meth0 {pl : Sem Bool} (hC : X.mg nm = some (.ref C)) (c : Cls X.K C) (hm : Meth X.K C mn f) (F : FnM X.prog X.w X.K X.mg X.base k f fd ps m) (hr : Room k X.A) (hb : Binds X.K fd ps ds) (hd : Vals dvs ds) (hw : Dfl X.K X.mg dw dvs) (tk : Takes X Wx) (ho : Pee X ea Wx o mo)
    (ht : MethRead X o mn apos pos [] pl := by rfl) :
    Pee X ea Wx (.Call (.Attribute o mn apos) [] [] pos) (mMeth nm mn ps.length m dw mo mNil) := by
  obtain ⟨t, q, r⟩ := ho.ex
  exact ⟨_, pe_methS0 q c hm F.ok hr hb hd (fun σ => passAt tk σ) ht, ref_meth hC hw r ref_nil⟩
end
end Z
set_option Elab.async false
set_option linter.all false
set_option maxRecDepth 100000
namespace Z
open PySem PySem.Spec PyProof.Rows L2
mutual
def noRef : W → Bool
  | .ref _ => false
  | .tup ws => noRefs ws
  | .lst ws => noRefs ws
  | .frl ws => noRefs ws
  | .dK kvs => noRefK kvs
  | .dT kvs => noRefT kvs
  | .dF kvs => noRefT kvs
  | .obj _ fs => noRefF fs
  | .slt _ ws => noRefs ws
  | .non => true
  | .bl _ => true
  | .int _ => true
  | .str _ => true
  | .byt _ => true
def noRefs : List W → Bool
  | [] => true
  | w :: ws => noRef w && noRefs ws
def noRefK : List (Key × W) → Bool
  | [] => true
  | (_, w) :: ws => noRef w && noRefK ws
def noRefT : List (List Key × W) → Bool
  | [] => true
  | (_, w) :: ws => noRef w && noRefT ws
def noRefF : List (Str × W) → Bool
  | [] => true
  | (_, w) :: ws => noRef w && noRefF ws
end
theorem noRefs_get : ∀ {ws : List W} {i : Nat} {w : W}, noRefs ws = true → ws[i]? = some w → noRef w = true
  | [], i, w, h, e => by simp at e
  | x :: ws, 0, w, h, e => by simp at e; subst e; simp [noRefs] at h; exact h.1
  | x :: ws, i + 1, w, h, e => by simp [noRefs] at h; exact noRefs_get h.2 (by simpa using e)
theorem noRefK_get : ∀ {ws : List (Key × W)} {i : Nat} {w : W}, noRefK ws = true → (ws.map (·.2))[i]? = some w → noRef w = true
  | [], i, w, h, e => by simp at e
  | x :: ws, 0, w, h, e => by simp at e; subst e; simp [noRefK] at h; exact h.1
  | x :: ws, i + 1, w, h, e => by simp [noRefK] at h; exact noRefK_get (i := i) h.2 (by simpa using e)
theorem noRefT_get : ∀ {ws : List (List Key × W)} {i : Nat} {w : W}, noRefT ws = true → (ws.map (·.2))[i]? = some w → noRef w = true
  | [], i, w, h, e => by simp at e
  | x :: ws, 0, w, h, e => by simp at e; subst e; simp [noRefT] at h; exact h.1
  | x :: ws, i + 1, w, h, e => by simp [noRefT] at h; exact noRefT_get (i := i) h.2 (by simpa using e)
theorem noRefF_get : ∀ {ws : List (Str × W)} {i : Nat} {w : W}, noRefF ws = true → (ws.map (·.2))[i]? = some w → noRef w = true
  | [], i, w, h, e => by simp at e
  | x :: ws, 0, w, h, e => by simp at e; subst e; simp [noRefF] at h; exact h.1
  | x :: ws, i + 1, w, h, e => by simp [noRefF] at h; exact noRefF_get (i := i) h.2 (by simpa using e)
def Cell.noRef : Cell → Bool
  | .lst ws => noRefs ws
  | .dK kvs => noRefK kvs
  | .dT kvs => noRefT kvs
  | .ins _ fs => noRefF fs
section
variable {K : PySem.W.Frag} {mg : Str → Option Value} {ea : EA} {io io' : List Addr} {Fr Fr' : Addr → Prop} {s s' s2 : S} {σ σ' : L2.St} {H H' : Hp} {w : W} {v : V} {c : Cell} {o : HO} {a p C : Addr} {ws : List W} {vs : List V} {M M' : Addr → Prop} {Wx : WX}
theorem Rw.noRef (h : Rw K mg io M H w v) (n : Z.noRef w = true) : Rw K mg io' M H w v := by
  induction h with
  | non => exact .non
  | bl b => exact .bl b
  | int i => exact .int i
  | str x => exact .str x
  | byt b => exact .byt b
  | tup h l q ih => exact .tup h l fun i w v a b => ih i w v a b (noRefs_get (by simpa [Z.noRef] using n) a)
  | frl h l q ih => exact .frl h l fun i w v a b => ih i w v a b (noRefs_get (by simpa [Z.noRef] using n) a)
  | lst h k l q ih => exact .lst h k l fun i w v a b => ih i w v a b (noRefs_get (by simpa [Z.noRef] using n) a)
  | dK h k l q ih => exact .dK h k l fun i w v a b => ih i w v a b (noRefK_get (by simpa [Z.noRef] using n) a)
  | dT h k l q ih => exact .dT h k l fun i w v a b => ih i w v a b (noRefT_get (by simpa [Z.noRef] using n) a)
  | dF h k l q ih => exact .dF h k l fun i w v a b => ih i w v a b (noRefT_get (by simpa [Z.noRef] using n) a)
  | obj m h k l q ih => exact .obj m h k l fun i w v a b => ih i w v a b (noRefF_get (by simpa [Z.noRef] using n) a)
  | slt m h k h2 k2 l q ih => exact .slt m h k h2 k2 l fun i w v a b => ih i w v a b (noRefs_get (by simpa [Z.noRef] using n) a)
  | ref h => simp [Z.noRef] at n
theorem Rc.noRef (h : Rc K mg io M H c o) (n : c.noRef = true) : Rc K mg io' M H c o := by
  cases c with
  | lst ws => obtain ⟨vs, e, h⟩ := h; exact ⟨vs, e, h.1, fun i w v a b => (h.2 i w v a b).noRef (noRefs_get n a)⟩
  | dK ws => obtain ⟨vs, e, h⟩ := h; exact ⟨vs, e, h.1, h.2.1, fun i w v a b => (h.2.2 i w v a b).noRef (noRefK_get n a)⟩
  | dT ws => obtain ⟨vs, e, h⟩ := h; exact ⟨vs, e, h.1, h.2.1, fun i w v a b => (h.2.2 i w v a b).noRef (noRefT_get n a)⟩
  | ins nm ws => obtain ⟨C, dx, vs, e, m, h⟩ := h; exact ⟨C, dx, vs, e, m, h.1, h.2.1, fun i w v a b => (h.2.2 i w v a b).noRef (noRefF_get n a)⟩
theorem child {α β : Type} {l1 : List α} {l2 : List β} (l : l1.length = l2.length) {i : Nat} {x : α} (a : l1[i]? = some x) : ∃ y, l2[i]? = some y :=
  ⟨_, List.getElem?_eq_getElem (by rw [← l]; exact get_lt a)⟩
theorem keys_len {κ α β : Type} {l1 : List (κ × α)} {l2 : List (κ × β)} (l : l1.map (·.1) = l2.map (·.1)) : (l1.map (·.2)).length = (l2.map (·.2)).length := by
  have := congrArg List.length l
  simpa using this
theorem Rw.shrink {more : List Addr} {H0 : Hp} {M0 : Addr → Prop} {v0 : V} (h0 : Rw K mg io M0 H0 w v0) : ∀ {v : V}, Rw K mg (io ++ more) M H w v → Rw K mg io M H w v := by
  induction h0 with
  | non => intro v h; cases h; exact .non
  | bl b => intro v h; cases h; exact .bl b
  | int i => intro v h; cases h; exact .int i
  | str x => intro v h; cases h; exact .str x
  | byt b => intro v h; cases h; exact .byt b
  | tup h l q ih =>
    intro v h'
    cases h' with
    | tup k1 k2 k3 =>
      refine .tup k1 k2 fun i w v a b => ?_
      obtain ⟨u, hu⟩ := child l a
      exact ih i w u a hu (k3 i w v a b)
  | frl h l q ih =>
    intro v h'
    cases h' with
    | frl k1 k2 k3 =>
      refine .frl k1 k2 fun i w v a b => ?_
      obtain ⟨u, hu⟩ := child l a
      exact ih i w u a hu (k3 i w v a b)
  | lst h n l q ih =>
    intro v h'
    cases h' with
    | lst k0 k1 k2 k3 =>
      refine .lst k0 k1 k2 fun i w v a b => ?_
      obtain ⟨u, hu⟩ := child l a
      exact ih i w u a hu (k3 i w v a b)
  | dK h n l q ih =>
    intro v h'
    cases h' with
    | dK k0 k1 k2 k3 =>
      refine .dK k0 k1 k2 fun i w v a b => ?_
      obtain ⟨u, hu⟩ := child (keys_len l) a
      exact ih i w u a hu (k3 i w v a b)
  | dT h n l q ih =>
    intro v h'
    cases h' with
    | dT k0 k1 k2 k3 =>
      refine .dT k0 k1 k2 fun i w v a b => ?_
      obtain ⟨u, hu⟩ := child (keys_len l) a
      exact ih i w u a hu (k3 i w v a b)
  | dF h n l q ih =>
    intro v h'
    cases h' with
    | dF k0 k1 k2 k3 =>
      refine .dF k0 k1 k2 fun i w v a b => ?_
      obtain ⟨u, hu⟩ := child (keys_len l) a
      exact ih i w u a hu (k3 i w v a b)
  | obj m h n l q ih =>
    intro v h'
    cases h' with
    | obj k00 k0 k1 k2 k3 =>
      refine .obj k00 k0 k1 k2 fun i w v a b => ?_
      obtain ⟨u, hu⟩ := child (keys_len l) a
      exact ih i w u a hu (k3 i w v a b)
  | slt m h n h2 n2 l q ih =>
    intro v h'
    cases h' with
    | slt k0 k1 k2 k3 k4 k5 k6 =>
      refine .slt k0 k1 k2 k3 k4 k5 fun i w v a b => ?_
      obtain ⟨u, hu⟩ := child l a
      exact ih i w u a hu (k6 i w v a b)
  | ref h =>
    intro v h'
    cases h' with
    | ref k =>
      rw [List.getElem?_append_left (get_lt h)] at k
      exact .ref k
theorem Rws.shrink {more : List Addr} {H0 : Hp} {M0 : Addr → Prop} {vs0 : List V} (h0 : Rws K mg io M0 H0 ws vs0) (h : Rws K mg (io ++ more) M H ws vs) : Rws K mg io M H ws vs := ⟨h.1, fun i w v a b => by
  obtain ⟨u, _, r⟩ := h0.get a
  exact r.shrink (h.2 i w v a b)⟩
theorem Rc.shrink {more : List Addr} {H0 : Hp} {M0 : Addr → Prop} {o0 : HO} (h0 : Rc K mg io M0 H0 c o0) (h : Rc K mg (io ++ more) M H c o) : Rc K mg io M H c o := by
  cases c with
  | lst ws => obtain ⟨vs, e, h⟩ := h; obtain ⟨vs0, _, h0⟩ := h0; exact ⟨vs, e, h0.shrink h⟩
  | dK ws => obtain ⟨vs, e, h⟩ := h; obtain ⟨vs0, _, h0⟩ := h0; exact ⟨vs, e, h.1, h0.2.shrink h.2⟩
  | dT ws => obtain ⟨vs, e, h⟩ := h; obtain ⟨vs0, _, h0⟩ := h0; exact ⟨vs, e, h.1, h0.2.shrink h.2⟩
  | ins nm ws => obtain ⟨C, dx, vs, e, m, h⟩ := h; obtain ⟨_, _, _, _, _, h0⟩ := h0; exact ⟨C, dx, vs, e, m, h.1, h0.2.shrink h.2⟩
theorem GSim.pop {G : List Cell} (g0 : GSim K mg io Fr G H) (g : GSim K mg (io ++ [a]) Fr' (G ++ [c]) H') (h : ∀ b, Fr b → Fr' b) (m : ∀ b, Mu io Fr' b → Mu io Fr b) : GSim K mg io Fr' G H' where
  len := g0.len
  cell := fun n b c' h1 h2 => by
    obtain ⟨o, e, r⟩ := g.cell n b c' (by rw [List.getElem?_append_left (get_lt h1)]; exact h1) (by rw [List.getElem?_append_left (get_lt h2)]; exact h2)
    obtain ⟨o0, _, r0⟩ := g0.cell n b c' h1 h2
    exact ⟨o, e, r0.shrink (r.pers (.less fun x z => z.imp (fun z => List.mem_append_left _ z) id))⟩
  nd := g0.nd
  dj := fun x hx => g.dj x (List.mem_append_left _ hx)
  fr := g.fr
open Classical in
noncomputable def makeG (nm : Str) (m : Fn) (ws : List W) : Mo RV := fun s => match m (.ref s.G.length :: ws) (s.G ++ [.ins nm []]) with
  | some (.ok (.val .non), G') => match G'.drop s.G.length with
    | [c] => if G'.take s.G.length = s.G ∧ c.noRef = true then some (.ok (.own c), s) else none
    | _ => none
  | some (.error x, G') => if G'.take s.G.length = s.G ∧ noRefF x.fs = true ∧ G'.length = s.G.length + 1 then some (.error x, s) else none
  | _ => none
theorem Sim.pushIns {x dx : Addr} {nm : Str} (S0 : Sim K mg ea io Fr s σ H) (hC : mg nm = some (.ref C)) (hx : H x = none) (hdx : H dx = none) (ne : dx ≠ x) :
    GSim K mg (io ++ [x]) (FrO Fr s.r σ) (s.G ++ [.ins nm []]) (upd (upd H dx (.own x)) x (.ins C dx [])) ∧ Stp io (Ms io Fr s σ) (FrO Fr s.r σ) H (io ++ [x]) (Mu (io ++ [x]) (FrO Fr s.r σ)) (upd (upd H dx (.own x)) x (.ins C dx [])) := by
  have kp : ∀ b u, H b = some u → upd (upd H dx (.own x)) x (.ins C dx []) b = some u := fun b u e => by
    rw [upd_ne (ne_of_none e hx), upd_ne (ne_of_none e hdx)]; exact e
  have same : ∀ b, Ms io Fr s σ b → upd (upd H dx (.own x)) x (.ins C dx []) b = H b := fun b z => by
    obtain ⟨u, e⟩ := S0.trk z
    rw [kp b u e, e]
  have nM : ¬ Ms io Fr s σ x := fun z => by
    obtain ⟨u, e⟩ := S0.trk z
    rw [hx] at e; cases e
  have q : Pers io (Ms io Fr s σ) H (io ++ [x]) (Mu (io ++ [x]) (FrO Fr s.r σ)) (upd (upd H dx (.own x)) x (.ins C dx [])) := ⟨fun b u e _ => kp b u e, fun b z => by
    rcases z with z | z
    · rcases List.mem_append.mp z with z | z
      · exact .inl (.inl z)
      · rw [List.mem_singleton] at z; exact .inr (by rw [z]; exact hx)
    · exact .inl (.inr z), fun n b e => by rw [List.getElem?_append_left (get_lt e)]; exact e⟩
  refine ⟨⟨by simp [S0.g.len], fun n b c h1 h2 => ?_, ?_, fun b hb z => ?_, fun b z => ?_⟩, q, fun b z => same b (.inr z), fun b u e => ⟨u, kp b u e⟩⟩
  · rcases Nat.lt_or_ge n io.length with hl | hl
    · rw [List.getElem?_append_left hl] at h1
      rw [List.getElem?_append_left (by rw [← S0.g.len]; exact hl)] at h2
      obtain ⟨u, e, r⟩ := S0.g.cell n b c h1 h2
      exact ⟨u, kp b u e, r.pers q⟩
    · rw [List.getElem?_append_right hl] at h1
      rw [List.getElem?_append_right (by rw [← S0.g.len]; exact hl), ← S0.g.len] at h2
      have e0 : n - io.length = 0 := by
        have := get_lt h1
        simpa using this
      rw [e0] at h1 h2
      simp at h1 h2
      subst h1; subst h2
      exact ⟨_, upd_same, C, dx, [], rfl, hC, Rkv.nil⟩
  · rw [List.nodup_append]
    refine ⟨S0.g.nd, by simp, fun b hb c hc => ?_⟩
    rw [List.mem_singleton] at hc
    subst hc
    exact fun z => nM (.inl (z ▸ hb))
  · rcases List.mem_append.mp hb with h | h
    · exact S0.g.dj b h z
    · rw [List.mem_singleton] at h
      subst h
      exact nM (.inr z)
  · obtain ⟨u, e, n⟩ := S0.g.fr b z
    exact ⟨u, kp b u e, n⟩
theorem make_use {n : Nat} {m : Fn} {nm : Str} {x dx : Addr} (S0 : Sim K mg ea io Fr s σ H) (R : Rws K mg io (Ms io Fr s σ) H ws vs) (hn : vs.length + 1 = n) (hC : mg nm = some (.ref C)) (hx : H x = none) (hdx : H dx = none) (ne : dx ≠ x)
    {r : Except Ex RV} (e : makeG nm m ws s = some (r, s')) {Q : VK}
    (hok : ∀ x, r = .ok x → ∀ v H' io', PostE K mg ea io Fr s σ H s' io' H' x v → Q v H') (hex : ∀ x, r = .error x → ∀ cls d H' io', PostX K mg ea io Fr s σ H s' σ io' H' x cls d → Wx cls d σ H') :
    spM K mg n m (.ref x :: vs) (upd (upd H dx (.own x)) x (.ins C dx [])) (fun v H2 => v = .non ∧ Q (.ref x) H2) (WE Wx σ) := by
  obtain ⟨g1, T1⟩ := S0.pushIns hC hx hdx ne
  have R1 : Rws K mg (io ++ [x]) (Mu (io ++ [x]) (FrO Fr s.r σ)) (upd (upd H dx (.own x)) x (.ins C dx [])) (.ref s.G.length :: ws) (.ref x :: vs) :=
    Rws.cons (.ref (by rw [← S0.g.len, List.getElem?_append_right (Nat.le_refl _)]; simp)) (R.pers T1.p)
  have nown : ∀ a (i : Nat) c, s.r[i]? = some (.own c) → σ[i]? = some (some (V.ref a)) → ¬ Fr a := fun a i c h1 h2 => by
    obtain ⟨b, o, q1, _, _, q4⟩ := S0.own i c h1
    rw [h2] at q1; cases q1
    exact q4
  have nFx : ¬ FrO Fr s.r σ x := g1.dj x (by simp)
  unfold makeG at e
  have last : ∀ {G' : List Cell} {io' : List Addr} {H' : Hp}, GSim K mg io' (FrO Fr s.r σ) G' H' → Stp (io ++ [x]) (Mu (io ++ [x]) (FrO Fr s.r σ)) (FrO Fr s.r σ) (upd (upd H dx (.own x)) x (.ins C dx [])) io' (Mu io' (FrO Fr s.r σ)) H' →
      G'.length = s.G.length + 1 → G'.take s.G.length = s.G → ∃ c, G' = s.G ++ [c] ∧ io' = io ++ [x] := fun {G' io' H'} g T hl ht => by
    have hl2 : io'.length = io.length + 1 := by rw [g.len, hl, S0.g.len]
    refine ⟨G'[s.G.length]'(by omega), ?_, ?_⟩
    · conv => lhs; rw [← List.take_append_drop s.G.length G', ht]
      congr 1
      rw [drop_get (by omega), List.drop_eq_nil_of_le (by omega)]
    · apply List.ext_getElem?
      intro i
      rcases Nat.lt_or_ge i (io ++ [x]).length with q | q
      · rw [List.getElem?_eq_getElem q]
        exact T.p.ext i _ (List.getElem?_eq_getElem q)
      · rw [List.getElem?_eq_none (by simp only [List.length_append, List.length_singleton] at q; omega), List.getElem?_eq_none q]
  split at e
  · rename_i G' k
    split at e
    · rename_i c hd
      split at e
      · rename_i hc
        cases e
        refine ⟨by simpa using hn, io ++ [x], FrO Fr s.r σ, _, _, _, G', g1, R1, k, fun f q v H' io' p => ?_, (fun _ q => by cases q)⟩
        cases q
        obtain ⟨g, T, r⟩ := p
        cases r
        refine ⟨rfl, ?_⟩
        have hl : G'.length = s.G.length + 1 := by
          have := congrArg List.length hd
          simp only [List.length_drop, List.length_singleton] at this
          omega
        obtain ⟨c', hG, rfl⟩ := last g T hl hc.1
        have hcc : c' = c := by
          rw [hG, List.drop_left] at hd
          simpa using hd
        subst hcc
        subst hG
        obtain ⟨o, ho, rc⟩ := g.cell io.length x c' (by rw [List.getElem?_append_right (Nat.le_refl _)]; simp) (by rw [S0.g.len, List.getElem?_append_right (Nat.le_refl _)]; simp)
        have le : ∀ b, Mu io (FrO (pls Fr x) s.r σ) b → Mu (io ++ [x]) (FrO Fr s.r σ) b := fun b z => by
          rcases z with z | z
          · exact .inl (List.mem_append_left _ z)
          · rcases (fro_pls b).1 z with z | z
            · exact .inr z
            · exact .inl (by rw [z]; simp)
        have ge : ∀ b, Mu (io ++ [x]) (FrO Fr s.r σ) b → Mu io (pls (FrO Fr s.r σ) x) b := fun b z => by
          rcases z with z | z
          · rcases List.mem_append.mp z with z | z
            · exact .inl z
            · rw [List.mem_singleton] at z; exact .inr (.inr z)
          · exact .inr (.inl z)
        have gp : GSim K mg io (FrO (pls Fr x) s.r σ) s.G H' := by
          refine ⟨S0.g.len, fun n b c2 h1 h2 => ?_, S0.g.nd, fun b hb z => ?_, fun b z => ?_⟩
          · obtain ⟨u, e1, r1⟩ := g.cell n b c2 (by rw [List.getElem?_append_left (get_lt h1)]; exact h1) (by rw [List.getElem?_append_left (get_lt h2)]; exact h2)
            obtain ⟨u0, _, r0⟩ := S0.g.cell n b c2 h1 h2
            exact ⟨u, e1, r0.shrink (r1.pers (.less le))⟩
          · rcases (fro_pls b).1 z with z | z
            · exact S0.g.dj b hb z
            · subst z
              have := g.nd
              rw [List.nodup_append] at this
              exact this.2.2 b hb b (by simp) rfl
          · rcases (fro_pls b).1 z with z | z
            · exact g.fr b z
            · exact ⟨o, by rw [z]; exact ho, rc.nt⟩
        have TT := T1.trans T
        have T2 : Stp io (Ms io Fr s σ) (FrO Fr s.r σ) H io (Mu io (FrO (pls Fr x) s.r σ)) H' := ⟨⟨TT.p.keep, fun b z => TT.p.new b (le b z), fun _ _ e => e⟩, TT.fr, TT.trk⟩
        refine hok _ rfl _ H' io ⟨x, o, rfl, ho, nFx, S0.call gp T2 fun b i c2 h1 h2 z => ?_, T2.frless fun b z => .inl z, (rc.pers (.less le)).noRef hc.2⟩
        rcases z with z | z
        · exact nown b i c2 h1 h2 z
        · subst z
          exact nFx (.inr ⟨i, c2, h1, h2⟩)
      · cases e
    · cases e
  · rename_i xx G' k
    split at e
    · rename_i hc
      cases e
      refine ⟨by simpa using hn, io ++ [x], FrO Fr s.r σ, _, _, _, G', g1, R1, k, (fun _ q => by cases q), fun x' q cls d H' io' p => ?_⟩
      cases q
      obtain ⟨g, T, xr⟩ := p
      obtain ⟨c', hG, rfl⟩ := last g T hc.2.2 hc.1
      subst hG
      have le : ∀ b, Mu io (FrO Fr s.r σ) b → Mu (io ++ [x]) (FrO Fr s.r σ) b := fun b z => z.imp (fun z => List.mem_append_left _ z) id
      have gp : GSim K mg io (FrO Fr s.r σ) s.G H' := S0.g.pop g (fun _ z => z) fun b z => z
      have TT := T1.trans T
      have T2 : Stp io (Ms io Fr s σ) (FrO Fr s.r σ) H io (Mu io (FrO Fr s.r σ)) H' := ⟨⟨TT.p.keep, fun b z => TT.p.new b (le b z), fun _ _ e => e⟩, TT.fr, TT.trk⟩
      refine hex _ rfl cls d H' io ⟨S0.call gp T2 nown, T2.frless fun b z => .inl z, ?_⟩
      obtain ⟨C2, y1, y2, y3⟩ := xr
      refine ⟨C2, y1, y2, y3.imp id ?_⟩
      rintro ⟨dd, us, z1, z2, z3, z4⟩
      exact ⟨dd, us, z1, z2, fun z => z3 (le _ z), z4.1, z4.2.1, fun i w v a b => ((z4.2.2 i w v a b).pers (.less le)).noRef (noRefF_get hc.2.1 a)⟩
    · cases e
  · cases e
noncomputable def mMake (nm : Str) (n : Nat) (m : Fn) (ds : List W) (ms : Mo (List RV)) : Mo RV := bnd ms fun xs => bnd (freezeAll xs) fun ws => if (ws ++ ds).length + 1 = n then makeG nm m (ws ++ ds) else stk
theorem ref_make {n : Nat} {m : Fn} {nm : Str} {t : TA} {ms : Mo (List RV)} {ds : List W} {dvs : List V} (hC : mg nm = some (.ref C)) (hd : Dfl K mg ds dvs) (ha : RefA K mg ea Wx t ms) :
    RefE K mg ea Wx (tMakeS C (spM K mg n m) dvs (WE Wx) t) (mMake nm n m ds ms) := by
  intro σ H io Fr s S0 r0 s' e Q hok hex
  refine arg2 ha S0 e hex fun xs vs s1 H1 io1 e2 px R1 => ?_
  rcases bnd_some e2 with ⟨x, e3, rfl⟩ | ⟨ws, s2, e3, e4⟩
  · obtain ⟨_, _, _, _, q, _⟩ := freezeAll_ok px.1 R1 e3
    cases q
  · obtain ⟨_, m2, S2, ws', q, r2⟩ := freezeAll_ok px.1 R1 e3
    cases q
    split at e4
    · rename_i hn
      intro x dx hx hdx ne
      have T2 := px.2.less m2
      have RR := r2.append (hd io1 _ H1)
      exact make_use S2 RR (by rw [← RR.1]; exact hn) hC hx hdx ne e4 (fun x q v H' io' p => hok x q v H' io' (p.trans T2)) fun x q cls d H' io' p => hex x q cls d H' io' ⟨p.1, T2.trans p.2.1, p.2.2⟩
    · cases e4
end
section
variable {X : Cx} {ea : EA} {Wx : WX} {e o : Expr} {es : List Expr} {mo mv : Mo RV} {ms : Mo (List RV)} {m : Fn} {k : Nat} {f C : Addr} {fd : FuncData} {ps : List Str} {x : Str} {p pos apos tpos : Pos} {ds : List Value} {dw : List W} {dvs : List V}
theorem pee_make (hC : X.mg x = some (.ref C)) (M : Mk X.K C f) (F : FnM X.prog X.w X.K X.mg X.base k f fd ps m) (hr : Room (k + 1) X.A) (hb : Binds X.K fd ps ds) (hd : Vals dvs ds) (hw : Dfl X.K X.mg dw dvs) (tk : Takes X Wx) (ha : Pea X ea Wx (e :: es) ms) (hg : Gl X x := by rfl)
    (hdb : (x == ("__debug__" : Str)) = false := by decide) (he : starEach (e :: es) X.env = (false, eval e X.env) :: starEach es X.env := by rfl) (hpl : (backTo pos (starEach es X.env)).any (·.1) = false := by rfl) :
    Pee X ea Wx (.Call (.Name x p) (e :: es) [] pos) (mMake x ps.length m dw ms) := by
  obtain ⟨t, q, r⟩ := ha.ex
  exact ⟨_, pe_makeS M F.ok hr hg hC hb hd (fun σ => passAt tk σ) q hdb he hpl, ref_make hC hw r⟩
end
end Z
set_option Elab.async false
set_option linter.all false
set_option maxRecDepth 100000
namespace Z
open PySem PySem.Spec PyProof.Rows L2
section
variable {K : PySem.W.Frag} {mg : Str → Option Value} {ea : EA} {io io' : List Addr} {Fr Fr' : Addr → Prop} {s s' s2 : S} {σ σ' : L2.St} {H H' : Hp} {w : W} {v : V} {c : Cell} {o : HO} {a p C : Addr} {ws : List W} {vs : List V} {M M' : Addr → Prop} {Wx : WX}
def spXI (K : PySem.W.Frag) (fs : List Str) : Sp := fun vs H Q _ => ∃ (a C : Addr) (us : List V), vs = .ref a :: us ∧ us.length = fs.length ∧ H a = some (exo a C none) ∧ OexC K C ∧ (∀ f ∈ fs, PySem.W.findIn K (.ref C) f = some none) ∧
  ∀ dx H', H dx = none → dx ≠ a → H' a = some (exo a C (some dx)) → H' dx = some (exd dx (fs.zip us).reverse) → (∀ b, b ≠ a → b ≠ dx → H' b = H b) → Q .non H'
section
variable {P : Program} {w : World} {base : Heap} {x qual : Str} {st : Stmt} {f : Addr} {fd : FuncData} {N : List Str} {f1 f2 f3 n1 n2 n3 : Str}
theorem xi1 (F : Fun K x qual st f fd) (S : FnScope ["self", n1] ["self", n1] (defScope st))
    (hb : ∀ (cdv : Value) (A : Around) (outer : List Env) (s : Shared) (H : Hp) (E : XK), Room 0 (A.deeper (envOfC qual (defScope st) s.heap.objs.size f cdv)) →
      PSs (cxOf (L2.CX P w) P w K mg base ["self", n1] qual (defScope st) f cdv A outer s H E) (defBody st) (tOst K f1 (tVar 0) (tVar 1))) : FnOk P w K mg base (L2.CX P w) 1 f fd ["self", n1] (spXI K [f1]) := by
  refine F.okX S (fun vs H Q E h => ?_) fun cdv A outer s H vs Q E hr h => ?_
  · obtain ⟨a, C, us, rfl, hl, _⟩ := h
    simpa using hl
  · obtain ⟨a, C, us, rfl, hl, ha, T, hf, q⟩ := h
    obtain ⟨u, rfl⟩ : ∃ u, us = [u] := by
      match us, hl with
      | [u], _ => exact ⟨u, rfl⟩
    refine ⟨_, hb cdv A outer s H E hr, _, rfl, _, rfl, a, C, rfl, T, hf _ (by simp), .inl ⟨ha, fun dx hd ne => ?_⟩⟩
    exact q dx _ hd ne (by rw [upd_same]) (by rw [upd_ne ne, upd_same]; rfl) fun b h1 h2 => by rw [upd_ne h1, upd_ne h2]
end
def mRaise (nm : Str) (fs : List Str) (ms : Mo (List RV)) : Mo Fl := bnd ms fun xs => bnd (freezeAll xs) fun ws => if ws.length = fs.length ∧ ws.length ≤ 1000 then raiseM ⟨nm, (fs.zip ws).reverse⟩ else stk
def mRaise0 (nm : Str) : Mo Fl := raiseM ⟨nm, []⟩
theorem Rkv.append {κ : Type} {ws ws' : List (κ × W)} {vs vs' : List (κ × V)} (h : Rkv K mg io M H ws vs) (t : Rkv K mg io M H ws' vs') : Rkv K mg io M H (ws ++ ws') (vs ++ vs') :=
  ⟨by simp [h.1, t.1], by simpa using h.2.append t.2⟩
theorem Rkv.zipRev : ∀ {fs : List Str} {ws : List W} {vs : List V}, ws.length = fs.length → Rws K mg io M H ws vs → Rkv K mg io M H (fs.zip ws).reverse (fs.zip vs).reverse
  | [], ws, vs, hl, r => by simp; exact Rkv.nil
  | f :: fs, [], vs, hl, r => by simp at hl
  | f :: fs, w :: ws, vs, hl, r => by
    obtain ⟨v, t, rfl, h1, h2⟩ := r.cons_inv
    simp only [List.zip_cons_cons, List.reverse_cons]
    exact (Rkv.zipRev (by simpa using hl) h2).append (Rkv.cons h1 Rkv.nil)
theorem ref_raise {nm : Str} {fs : List Str} {ta : TA} {ms : Mo (List RV)} (hC : mg nm = some (.ref C)) (T : OexC K C) (hf : ∀ f ∈ fs, PySem.W.findIn K (.ref C) f = some none) (ha : RefA K mg ea Wx ta ms) (nz : fs ≠ []) :
    RefS K mg ea Wx (fun _ σ H => tMkO C (spXI K fs) [] ta σ H fun cls d H' => Wx cls d σ H') (mRaise nm fs ms) := by
  intro σ H io Fr s S0 r0 s' e D hnx hbk hct hrt hex
  refine arg2 ha S0 e (fun x q cls d H' io' px => hex x q cls d σ H' io' px) fun xs vs s1 H1 io1 e2 px R1 => ?_
  rcases bnd_some e2 with ⟨x, e3, rfl⟩ | ⟨ws, s2, e3, e4⟩
  · obtain ⟨_, _, _, _, q, _⟩ := freezeAll_ok px.1 R1 e3
    cases q
  · obtain ⟨_, m2, S2, ws', q, r2⟩ := freezeAll_ok px.1 R1 e3
    cases q
    split at e4
    · rename_i hn
      cases e4
      refine ⟨by rw [← r2.1]; exact hn.2, fun a ha => ⟨a, C, vs, by simp, by rw [← r2.1]; exact hn.1, upd_same, T, hf, fun dx H' hd ne e1 e2 e3 => ⟨rfl, dx, _, e1, e2, ?_, ?_⟩⟩⟩
      · rw [upd_ne ne] at hd; exact hd
      · have hd1 : H1 dx = none := by rw [upd_ne ne] at hd; exact hd
        have eH : upd (del H' a) dx (.xd (fs.zip vs).reverse) = upd H1 dx (.xd (fs.zip vs).reverse) := by
          funext b
          by_cases hb : b = dx
          · subst hb; rw [upd_same, upd_same]
          · rw [upd_ne hb, upd_ne hb]
            by_cases hba : b = a
            · subst hba; rw [del_same, ha]
            · rw [del_ne hba, e3 b hba hb, upd_ne hba]
        rw [eH]
        obtain ⟨S3, T3⟩ := S2.laid (o := .xd (fs.zip vs).reverse) hd1
        refine hex _ rfl _ _ σ _ io1 ⟨S3, (px.2.less m2).trans T3, C, hC, rfl, .inr ⟨dx, _, rfl, upd_same, fun z => ?_, Rkv.zipRev hn.1 (r2.pers T3.p)⟩⟩
        obtain ⟨u, e⟩ := S2.trk z
        rw [hd1] at e; cases e
    · cases e4
theorem ref_raise0 {nm : Str} (hC : mg nm = some (.ref C)) : RefS K mg ea Wx (fun _ σ H => (fun (_ : L2.St) (H : Hp) (Q : XK) => Q (.ref C) none H) σ H fun cls d H' => Wx cls d σ H') (mRaise0 nm) := by
  intro σ H io Fr s S0 r0 s' e D hnx hbk hct hrt hex
  cases e
  exact hex _ rfl _ _ σ H io ⟨S0, .refl, C, hC, rfl, .inl ⟨rfl, rfl⟩⟩
end
section
variable {X : Cx} {ea : EA} {Wx : WX} {e o : Expr} {es : List Expr} {ms : Mo (List RV)} {k : Nat} {f C : Addr} {fd : FuncData} {ps fs : List Str} {x : Str} {p pos pos' : Pos}
theorem pes_raise (hC : X.mg x = some (.ref C)) (T : OexC X.K C) (hf : ∀ f ∈ fs, PySem.W.findIn X.K (.ref C) f = some none) (nz : fs ≠ []) (iC : PySem.W.findIn X.K (.ref C) "__init__" = some (some (.ref f))) (tI : PySem.W.typeIn X.K (.ref f) = some (.type "function"))
    (F1 : FnOk X.prog X.w X.K X.mg X.base (L2.CX X.prog X.w) k f fd ps (spXI X.K fs)) (hr : Room (k + 1) X.A) (hb : Binds X.K fd ps []) (tk : Takes X Wx) (ha : Pea X ea Wx (e :: es) ms) (hc : X.calm = true := by rfl) (hg : Gl X x := by rfl)
    (hdb : (x == ("__debug__" : Str)) = false := by decide) (he : starEach (e :: es) X.env = (false, eval e X.env) :: starEach es X.env := by rfl) (hpl : (backTo pos (starEach es X.env)).any (·.1) = false := by rfl) :
    Pes X ea Wx (.Raise (some (.Call (.Name x p) (e :: es) [] pos)) none pos') (mRaise x fs ms) := by
  obtain ⟨t, q, r⟩ := ha.ex
  exact ⟨_, ps_raise hc tk (pmk_oex T iC tI F1 hr hb .nil passL hg hC q hdb he hpl), ref_raise hC T hf r nz⟩
end
end Z
set_option Elab.async false
set_option linter.all false
set_option maxRecDepth 100000
namespace Z
open PySem PySem.Spec PyProof.Rows L2
abbrev HdT := Value × Option Nat × (Addr → Value → Option Addr → TS)
def endsAt (i : Nat) (D : Ends) : Ends := { nx := fun σ' H' => D.nx (σ'.set i none) H', rt := D.rt, bk := fun σ' H' => D.bk (σ'.set i none) H', ct := fun σ' H' => D.ct (σ'.set i none) H' }
def wHds (K : PySem.W.Frag) (Wout : WX) (D : Ends) : List HdT → WX
  | [] => Wout
  | (c, none, ts) :: r => fun cls d σ H => ∃ b, PySem.W.exmOne K cls c = some b ∧ (b = true → ∀ a, H a = none → ts a cls d D σ H) ∧ (b = false → wHds K Wout D r cls d σ H)
  | (c, some i, ts) :: r => fun cls d σ H => ∃ b, PySem.W.exmOne K cls c = some b ∧ (b = true → ∀ a, H a = none → ts a cls d (endsAt i D) (σ.set i (some (.ref a))) H) ∧ (b = false → wHds K Wout D r cls d σ H)
inductive HdsN (X : Cx) : List ExceptHandler → List HdT → Prop
  | nil : HdsN X [] []
  | cons {x : Str} {c : Value} {ts : Addr → Value → Option Addr → TS} {b₀ : Stmt} {suite : List Stmt} {np pos' : Pos} {hds : List ExceptHandler} {l : List HdT} (hc : Names X x c)
      (hsu : ∀ (a : Addr) (oe : Obj) (cls : Value) (d : Option Addr) (pn : List (Addr × Obj)), Zc cls d oe → (∃ vs, oe.data = .fields vs) → PSs (X.suite a ((a, oe) :: pn)) (b₀ :: suite) (ts a cls d)) (r : HdsN X hds l) :
      HdsN X (.ExceptHandler (some (.Name x np)) none (b₀ :: suite) pos' :: hds) ((c, none, ts) :: l)
  | consAs {x n : Str} {c : Value} {i : Nat} {ts : Addr → Value → Option Addr → TS} {b₀ : Stmt} {suite : List Stmt} {np pos' : Pos} {hds : List ExceptHandler} {l : List HdT} (hc : Names X x c) (hi : X.N[i]? = some n) (hln : X.env.kindOf n = some .local)
      (hsu : ∀ (a : Addr) (oe : Obj) (cls : Value) (d : Option Addr) (pn : List (Addr × Obj)), Zc cls d oe → (∃ vs, oe.data = .fields vs) → PSs (X.suite a ((a, oe) :: pn)) (b₀ :: suite) (ts a cls d)) (r : HdsN X hds l) :
      HdsN X (.ExceptHandler (some (.Name x np)) (some n) (b₀ :: suite) pos' :: hds) ((c, some i, ts) :: l)
section
variable {X : Cx} {body : List Stmt} {h₀ : ExceptHandler} {hds : List ExceptHandler} {l : List HdT} {pos : Pos} {tb : WX → TS} {Wout : WX}
structure Got (X : Cx) (pl : List (Addr × Obj)) (a : Addr) (B : Heap) (sI : Shared) (σ : L2.St) (H : Hp) (cls : Value) (d : Option Addr) (s : Shared) : Prop where
  own : X.stack = X.env :: X.outer
  at_ : X.env.frame = some X.env.locals
  old : Inv X pl σ H sI
  nb : ∀ b o, sI.heap.get? b = some o → b ∉ frs X.stack → B.get? b = some o
  fly : HandSPX.FlyingZ B (X.env :: X.outer) a (Zc cls d) s.heap
  up : sI.heap.UpToSlots s.heap
  na : H a = none
  os : s.os = sI.os
  ag : AllBare s.gens
section
variable {pl : List (Addr × Obj)} {a : Addr} {B : Heap} {sI s : Shared} {σ : L2.St} {H : Hp} {cls c : Value} {d : Option Addr} {x n : Str} {np p2 : Pos} {D : Ends} {b0 : Stmt} {bs : List Stmt} {ts : Addr → Value → Option Addr → TS} {i : Nat}
theorem Got.inv (g : Got X pl a B sI σ H cls d s) : Inv X pl σ H s := g.old.landed g.nb g.fly.1 g.up g.os g.ag
theorem Got.move {h : Heap} (g : Got X pl a B sI σ H cls d s) (fl : HandSPX.FlyingZ B (X.env :: X.outer) a (Zc cls d) h) (u : s.heap.UpToSlots h) : Got X pl a B sI σ H cls d { s with heap := h } := { g with fly := fl, up := g.up.trans u }
theorem Got.noFrame (g : Got X pl a B sI σ H cls d s) : a ∉ frs (X.env :: X.outer) := fun hm => by
  obtain ⟨oe, us, e1, _, e2⟩ := g.fly.there
  obtain ⟨_, o2, e3, e4⟩ := g.fly.2.2.1.mem hm
  exact e4 us (by rw [← Option.some.inj (e1.symm.trans e3)]; exact e2)
theorem Got.inSuite (g : Got X pl a B sI σ H cls d s) : ∃ oe, s.heap.get? a = some oe ∧ Zc cls d oe ∧ (∃ us, oe.data = .fields us) ∧ Inv (X.suite a ((a, oe) :: (X.pn ++ pl))) [] σ H s := by
  obtain ⟨oe, us, e1, z, e2⟩ := g.fly.there
  have n1 : a ≠ X.env.locals := fun z => g.noFrame (List.mem_filterMap.mpr ⟨X.env, by simp, by rw [g.at_, z]⟩)
  have n2 : a ∉ X.fs := fun hm => let ⟨e, he, q⟩ := List.mem_filterMap.mp hm; g.noFrame (List.mem_filterMap.mpr ⟨e, List.mem_cons_of_mem _ he, q⟩)
  exact ⟨oe, e1, z, ⟨us, e2⟩, g.inv.suite e1 e2 g.na n1 n2⟩
theorem Got.asked {b : Bool} {R : Result → Shared → Prop} (g : Got X pl a B sI σ H cls d s) (nm : Names X x c) (hb : PySem.W.exmOne X.K cls c = some b) (h : R (.ok (if b then .brk else .next)) s) :
    codeAny (model X.prog X.w) (X.A.mark (some (.ref a))) (.handlers (.ref a) [.ExceptHandler (some (.Name x np)) none [] p2] X.env) R s := by
  obtain ⟨oe, e1, z, _, S⟩ := g.inSuite
  have look : PySem.W.Looks (model X.prog X.w) s.heap (typeOf (.ref a)) cls := fun _ _ _ _ k q => wpAny_typeOf_ref (k _ _ e1) (by rw [z.1]; exact q)
  refine codeAny_handlers_test ?_
  rcases nm with ⟨n1, n2, n3 | ⟨n3, n4, n5⟩⟩
  · exact ld_glob S n1 n3 ((PySem.W.exm_one g.inv.kIn look hb).here h) n2
  · exact ld_blt S n1 n3 n4 ((PySem.W.exm_one g.inv.kIn look hb).here h) n5 n2
theorem Got.unserved {Wout : WX} (g : Got X pl a B sI σ H cls d s) (tk : Takes X Wout) (w : Wout cls d σ H) : wpAny (model X.prog X.w) X.A (handleBy (.ref a) X.env []) (SP X pl D) X.xe s := by
  have thrown : wpAny (model X.prog X.w) X.A (setFlight (.ref a) X.env.frame) (fun _ s4 => wpAny (model X.prog X.w) X.A (throw (.ref a) : Sem Flow) (SP X pl D) X.xe s4) X.xe s := by
    rw [g.at_]
    exact HandSPX.setFlight_upZ g.fly fun h4 held u => wpAny_throw (tk _ _ ⟨a, B, sI, pl, σ, H, cls, d, rfl, g.old, g.nb, g.up.trans u, .inr (.inr (by rw [g.own]; exact held)), g.na, g.os, g.ag, w⟩)
  obtain ⟨_, _, _, oe, us, T, _, _, e1, _, e2, e3, _⟩ := id g.fly
  refine wpAny_handleBy_nil ?_
  unfold PySem.passOn
  refine wpAny_bind (wpAny_field e1 e2 e3 ?_)
  have nn : ¬ ((Value.ref T == Value.none) = true) := by simp
  rw [if_neg nn]
  first | exact wpAny_bind (wpAny_pure (wpAny_bind thrown)) | exact wpAny_bind thrown
theorem suite_end {q : Addr × Obj} {f : Flow} {s6 : Shared} (ok : X.Ok) (h : SP (X.suite a (q :: (X.pn ++ pl))) [] D f s6) : SP X pl D f s6 := by
  cases f with
  | ret u => exact let ⟨v, σ6, H6, S, r, k⟩ := h; ⟨v, σ6, H6, S.unsuite ok, r, k⟩
  | next => exact let ⟨σ6, H6, S, k⟩ := h; ⟨σ6, H6, S.unsuite ok, k⟩
  | brk => exact let ⟨σ6, H6, S, k⟩ := h; ⟨σ6, H6, S.unsuite ok, k⟩
  | cont => exact let ⟨σ6, H6, S, k⟩ := h; ⟨σ6, H6, S.unsuite ok, k⟩
theorem Got.runs {R : Result → Shared → Prop} (g : Got X pl a B sI σ H cls d s) (hsu : ∀ (a : Addr) (oe : Obj) (cls : Value) (d : Option Addr) (pn : List (Addr × Obj)), Zc cls d oe → (∃ vs, oe.data = .fields vs) → PSs (X.suite a ((a, oe) :: pn)) (b0 :: bs) (ts a cls d)) (w : ts a cls d D σ H) (h : ∀ f s6, SP X pl D f s6 → R (.ok f) s6) :
    codeAny (model X.prog X.w) (X.A.mark (some (.ref a))) (.handlers (.ref a) [.ExceptHandler none none (b0 :: bs) p2] X.env) R s := by
  refine codeAny_handlers_suite (HandSPX.lands_againZ g.fly fun h4 fl u => ?_)
  obtain ⟨oe, _, z, df, S⟩ := (g.move fl u).inSuite
  exact wpAny_mono ((hsu a oe cls d _ z df).run [] _ _ H _ S w) (fun f s6 q => h f s6 (suite_end g.inv.ok q)) fun _ _ z => z.elim
theorem Got.runsAs {R : Result → Shared → Prop} (g : Got X pl a B sI σ H cls d s) (hN : X.N.Nodup) (hi : X.N[i]? = some n) (hl : X.env.kindOf n = some .local) (hsu : ∀ (a : Addr) (oe : Obj) (cls : Value) (d : Option Addr) (pn : List (Addr × Obj)), Zc cls d oe → (∃ vs, oe.data = .fields vs) → PSs (X.suite a ((a, oe) :: pn)) (b0 :: bs) (ts a cls d))
    (w : ts a cls d (endsAt i D) (σ.set i (some (.ref a))) H) (h : ∀ f s6, wpAny (model X.prog X.w) X.A (do bindName X.env n .none; unbindBehindTheSuite X.env n p2) (fun _ s7 => SP X pl D f s7) X.xe s6 → R (.ok f) s6) :
    codeAny (model X.prog X.w) (X.A.mark (some (.ref a))) (.handlers (.ref a) [.ExceptHandler none (some n) (b0 :: bs) p2] X.env) R s := by
  refine codeAny_handlers_suite_as (HandSPX.lands_againZ g.fly fun h4 fl u => ?_)
  obtain ⟨oe, _, z, df, S⟩ := (g.move fl u).inSuite
  have at_ : Loc (X.suite a ((a, oe) :: (X.pn ++ pl))).env.scope n := .inl hl
  refine store_ok (X := X.suite a ((a, oe) :: (X.pn ++ pl))) (v := .ref a) (hx := at_) (hf := .inr hl) (hi := hi) (hN := hN) (r := rfl) S fun s5 S5 => ?_
  refine wpAny_mono ((hsu a oe cls d _ z df).run [] s5 _ H _ S5 w) (fun f s6 q => h f s6 ?_) fun _ _ z => z.elim
  have q := suite_end g.inv.ok q
  cases f with
  | ret u => exact let ⟨v, σ6, H6, J, r, k⟩ := q; gone_ok J hN hi hl fun s7 J7 => ⟨v, _, H6, J7, r, k⟩
  | next => exact let ⟨σ6, H6, J, k⟩ := q; gone_ok J hN hi hl fun s7 J7 => ⟨_, H6, J7, k⟩
  | brk => exact let ⟨σ6, H6, J, k⟩ := q; gone_ok J hN hi hl fun s7 J7 => ⟨_, H6, J7, k⟩
  | cont => exact let ⟨σ6, H6, J, k⟩ := q; gone_ok J hN hi hl fun s7 J7 => ⟨_, H6, J7, k⟩
theorem Got.all {Wout : WX} (tk : Takes X Wout) (hN : X.N.Nodup) {hds : List ExceptHandler} {l : List HdT} (hk : HdsN X hds l) : ∀ {s : Shared}, Got X pl a B sI σ H cls d s → wHds X.K Wout D l cls d σ H → wpAny (model X.prog X.w) X.A (handleBy (.ref a) X.env hds) (SP X pl D) X.xe s := by
  induction hk with
  | nil => exact fun g w => g.unserved tk w
  | cons nm hsu _ ih =>
    rintro s g ⟨b, hb, yes, no⟩
    refine wpAny_handleBy_cons (g.asked nm hb ?_) (by intro q; cases q)
    cases b with
    | true =>
      refine g.runs hsu (yes rfl a g.na) fun f s6 q => ?_
      exact q
    | false => exact ih g (no rfl)
  | consAs nm hi hl hsu _ ih =>
    rintro s g ⟨b, hb, yes, no⟩
    refine wpAny_handleBy_cons (g.asked nm hb ?_) (by intro q; cases q)
    cases b with
    | true =>
      refine g.runsAs hN hi hl hsu (yes rfl a g.na) fun f s6 q => ?_
      exact q
    | false => exact ih g (no rfl)
end
end
section
variable (K : PySem.W.Frag) (mg : Str → Option Value) (ea : EA) (Wx : WX)
def tsOf (m : Mo Fl) : TS := fun D σ H => ∃ io Fr s r s', Sim K mg ea io Fr s σ H ∧ m s = some (r, s') ∧
  (r = .ok .nx → ∀ σ' H' io', PostS K mg ea io Fr s σ H s' σ' io' H' → D.nx σ' H') ∧ (r = .ok .bk → ∀ σ' H' io', PostS K mg ea io Fr s σ H s' σ' io' H' → D.bk σ' H') ∧
  (r = .ok .ct → ∀ σ' H' io', PostS K mg ea io Fr s σ H s' σ' io' H' → D.ct σ' H') ∧ (∀ f, r = .ok (.rt f) → ∀ v H' io', PostF K mg io (Ms io Fr s σ) Fr H s'.G io' H' f v → D.rt v H') ∧
  (∀ x, r = .error x → ∀ cls d σ' H' io', PostX K mg ea io Fr s σ H s' σ' io' H' x cls d → Wx cls d σ' H')
end
theorem Pess.can {X : Cx} {ea : EA} {Wx : WX} {sts : List Stmt} {m : Mo Fl} (h : Pess X ea Wx sts m) : PSs X sts (tsOf X.K X.mg ea Wx m) := by
  obtain ⟨t, p, r⟩ := h.ex
  exact ⟨fun pins s σ H D I ⟨io, Fr, s1, r0, s', S0, e, h1, h2, h3, h4, h5⟩ => p.run pins s σ H D I (r σ H io Fr s1 S0 r0 s' e D h1 h2 h3 h4 h5)⟩
def noExc (r : List SV) : Bool := r.all fun x => match x with
  | .exc _ => false
  | _ => true
theorem noExc_get {r : List SV} {i : Nat} {x : Ex} (h : noExc r = true) : r[i]? ≠ some (.exc x) := fun e => by
  have := List.all_eq_true.mp h _ (List.mem_of_getElem? e)
  simp at this
structure Hd where
  tbl : List (Str × Bool)
  slot : Option Nat
  suite : Mo Fl
section
variable {K : PySem.W.Frag} {mg : Str → Option Value} {ea ea' : EA} {io io' : List Addr} {Fr Fr' : Addr → Prop} {s s' s2 : S} {σ σ' : L2.St} {H H' : Hp} {w : W} {v : V} {c : Cell} {o : HO} {a p C : Addr} {ws : List W} {vs : List V} {M M' : Addr → Prop} {Wx : WX}
theorem Sim.setExc {i : Nat} {x : Ex} {cls : Value} {d : Option Addr} (y : Sim K mg ea io Fr s σ H) (h : noExc s.r = true) (e : ExR K mg io (Ms io Fr s σ) H x cls d) :
    Sim K mg ⟨a, cls, d⟩ io Fr { s with r := s.r.set i (.exc x) } (σ.set i (some (.ref a))) H ∧ (∀ b, Ms io Fr { s with r := s.r.set i (.exc x) } (σ.set i (some (.ref a))) b → Ms io Fr s σ b) := by
  have key : ∀ (j : Nat) (z : SV), (s.r.set i (.exc x))[j]? = some z → (∀ q, z ≠ .exc q) → i ≠ j ∧ s.r[j]? = some z := fun j z e n => by
    by_cases ij : i = j
    · subst ij
      have hi := get_lt e
      simp only [List.length_set] at hi
      rw [List.getElem?_set_self hi] at e
      cases e
      exact absurd rfl (n x)
    · rw [List.getElem?_set_ne ij] at e
      exact ⟨ij, e⟩
  have fo : ∀ b, FrO Fr (s.r.set i (.exc x)) (σ.set i (some (.ref a))) b → FrO Fr s.r σ b := fun b z => z.imp id fun ⟨j, c, h1, h2⟩ => by
    obtain ⟨ij, e⟩ := key j _ h1 (fun q => by intro z; cases z)
    rw [List.getElem?_set_ne ij] at h2
    exact ⟨j, c, e, h2⟩
  have le : ∀ b, Ms io Fr { s with r := s.r.set i (.exc x) } (σ.set i (some (.ref a))) b → Ms io Fr s σ b := fun b z => z.imp id (fo b)
  refine ⟨⟨by simp [y.len], y.g.less fo, fun j w q => ?_, fun j c q => ?_, fun j k c d b q1 q2 q3 q4 => ?_, fun j z q => ?_⟩, le⟩
  · obtain ⟨ij, q'⟩ := key j _ q (fun q => by intro z; cases z)
    obtain ⟨v, h1, h2⟩ := y.val j w q'
    exact ⟨v, by rw [List.getElem?_set_ne ij]; exact h1, h2.pers (.less le)⟩
  · obtain ⟨ij, q'⟩ := key j _ q (fun q => by intro z; cases z)
    obtain ⟨b, o, h1, h2, h3, h4⟩ := y.own j c q'
    exact ⟨b, o, by rw [List.getElem?_set_ne ij]; exact h1, h2, h3.pers (.less le), h4⟩
  · obtain ⟨ij, e1⟩ := key j _ q1 (fun q => by intro z; cases z)
    obtain ⟨ik, e2⟩ := key k _ q2 (fun q => by intro z; cases z)
    rw [List.getElem?_set_ne ij] at q3
    rw [List.getElem?_set_ne ik] at q4
    exact y.dist j k c d b e1 e2 q3 q4
  · by_cases ij : i = j
    · subst ij
      have hi := get_lt q
      simp only [List.length_set] at hi
      rw [List.getElem?_set_self hi] at q
      cases q
      exact ⟨List.getElem?_set_self (by rw [← y.len]; exact hi), e.pers (.less le)⟩
    · simp only at q
      rw [List.getElem?_set_ne ij] at q
      exact absurd q (noExc_get h)
inductive HdsM (K : PySem.W.Frag) (mg : Str → Option Value) : List HdT → List Hd → Prop
  | nil : HdsM K mg [] []
  | cons {c : Value} {os : Option Nat} {tbl : List (Str × Bool)} {m : Mo Fl} {l : List HdT} {hs : List Hd} (ht : ∀ nm b, tbl.lookup nm = some b → ∀ C, mg nm = some (.ref C) → PySem.W.exmOne K (.ref C) c = some b) (r : HdsM K mg l hs) :
      HdsM K mg ((c, os, fun a cls d => tsOf K mg ⟨a, cls, d⟩ W0 m) :: l) (⟨tbl, os, m⟩ :: hs)
end
section
variable {X : Cx} {ea : EA} {Wx : WX} {body : List Stmt} {h₀ : ExceptHandler} {hds : List ExceptHandler} {pos : Pos} {mb : Mo Fl}
structure PHds (X : Cx) (hds : List ExceptHandler) (hs : List Hd) : Prop where
  ex : ∃ l, HdsN X hds l ∧ HdsM X.K X.mg l hs
variable {x n : Str} {c : Value} {i : Nat} {b₀ : Stmt} {suite : List Stmt} {np pos' : Pos} {hs : List Hd} {tbl : List (Str × Bool)} {m : Mo Fl}
end
end Z
set_option Elab.async false
set_option linter.all false
set_option maxRecDepth 100000
namespace Z
open PySem PySem.Spec PyProof.Rows L2
section
variable {K : PySem.W.Frag} {mg : Str → Option Value} {ea : EA} {io io' : List Addr} {Fr Fr' : Addr → Prop} {s s' s2 : S} {σ σ' : L2.St} {H H' : Hp} {w : W} {v : V} {c c' : Cell} {o o' : HO} {a p C : Addr} {ws : List W} {vs : List V} {M M' : Addr → Prop} {Wx : WX}
theorem fro_own {i : Nat} (e : s.r[i]? = some (.own c)) : ∀ b, FrO Fr (s.r.set i (.own c')) σ b ↔ FrO Fr s.r σ b := by
  have hi := get_lt e
  intro b
  constructor
  · rintro (z | ⟨j, d, h1, h2⟩)
    · exact .inl z
    · by_cases ij : i = j
      · subst ij; exact .inr ⟨i, c, e, h2⟩
      · rw [List.getElem?_set_ne ij] at h1; exact .inr ⟨j, d, h1, h2⟩
  · rintro (z | ⟨j, d, h1, h2⟩)
    · exact .inl z
    · by_cases ij : i = j
      · subst ij; exact .inr ⟨i, c', List.getElem?_set_self hi, h2⟩
      · exact .inr ⟨j, d, by rw [List.getElem?_set_ne ij]; exact h1, h2⟩
theorem ms_own {i : Nat} (e : s.r[i]? = some (.own c)) : ∀ b, Ms io Fr { s with r := s.r.set i (.own c') } σ b ↔ Ms io Fr s σ b := fun b => by
  constructor
  · exact fun z => z.imp id (fro_own e b).1
  · exact fun z => z.imp id (fro_own e b).2
theorem Sim.setOwnCell {i : Nat} (x : Sim K mg ea io Fr s σ H) (e : s.r[i]? = some (.own c)) (hs : σ[i]? = some (some (V.ref a))) (h : ∀ {H' : Hp}, Pers io (Ms io Fr s σ) H io (Ms io Fr s σ) H' → Rc K mg io (Ms io Fr s σ) H' c' o') :
    Sim K mg ea io Fr { s with r := s.r.set i (.own c') } σ (upd H a o') ∧ Stp io (Ms io Fr s σ) Fr H io (Ms io Fr { s with r := s.r.set i (.own c') } σ) (upd H a o') := by
  have hi := get_lt e
  obtain ⟨a0, o0, k1, k2, k3, k4⟩ := x.own i c e
  rw [hs] at k1; cases k1
  have aF : FrO Fr s.r σ a := .inr ⟨i, c, e, hs⟩
  have aM : Ms io Fr s σ a := .inr aF
  have nio : a ∉ io := fun z => x.g.dj a z aF
  have q : Pers io (Ms io Fr s σ) H io (Ms io Fr s σ) (upd H a o') := ⟨fun b u e hb => by rw [upd_ne (fun z => by subst z; exact hb aM)]; exact e, fun b z => .inl z, fun _ _ e => e⟩
  have le : ∀ b, Ms io Fr { s with r := s.r.set i (.own c') } σ b → Ms io Fr s σ b := fun b z => (ms_own e b).1 z
  have q' : Pers io (Ms io Fr s σ) H io (Ms io Fr { s with r := s.r.set i (.own c') } σ) (upd H a o') := ⟨q.keep, fun b z => .inl (le b z), q.ext⟩
  refine ⟨⟨by simpa using x.len, ⟨x.g.len, fun m b d h1 h2 => ?_, x.g.nd, fun b z => fun t => x.g.dj b z ((fro_own e b).1 t), fun b z => ?_⟩, fun j u t => ?_, fun j d t => ?_, fun j k d d' b t1 t2 t3 t4 => ?_, fun j y t => ?_⟩, q', fun b z => ?_, fun b u t => ?_⟩
  · obtain ⟨u, t, r⟩ := x.g.cell m b d h1 h2
    have nb : b ≠ a := fun z => by
      subst z
      exact nio (List.mem_of_getElem? h1)
    exact ⟨u, by rw [upd_ne nb]; exact t, r.pers q'⟩
  · by_cases ba : b = a
    · exact ⟨o', by rw [ba, upd_same], (h q).nt⟩
    · obtain ⟨u, t, n⟩ := x.g.fr b ((fro_own e b).1 z)
      exact ⟨u, by rw [upd_ne ba]; exact t, n⟩
  · by_cases ij : i = j
    · subst ij
      rw [show ({ s with r := s.r.set i (.own c') } : S).r = s.r.set i (.own c') from rfl, List.getElem?_set_self hi] at t
      cases t
    · rw [show ({ s with r := s.r.set i (.own c') } : S).r = s.r.set i (.own c') from rfl, List.getElem?_set_ne ij] at t
      obtain ⟨v, h1, h2⟩ := x.val j u t
      exact ⟨v, h1, h2.pers q'⟩
  · by_cases ij : i = j
    · subst ij
      rw [show ({ s with r := s.r.set i (.own c') } : S).r = s.r.set i (.own c') from rfl, List.getElem?_set_self hi] at t
      cases t
      exact ⟨a, o', hs, upd_same, (h q).pers (.less le), k4⟩
    · rw [show ({ s with r := s.r.set i (.own c') } : S).r = s.r.set i (.own c') from rfl, List.getElem?_set_ne ij] at t
      obtain ⟨b, u, h1, h2, h3, h4⟩ := x.own j d t
      have ba : b ≠ a := fun z => by
        subst z
        exact ij (x.dist i j c d b e t hs h1)
      exact ⟨b, u, h1, by rw [upd_ne ba]; exact h2, h3.pers q', h4⟩
  · have key : ∀ (j : Nat) (d : Cell), (s.r.set i (.own c'))[j]? = some (.own d) → ∃ d0, s.r[j]? = some (.own d0) := fun j d t => by
      by_cases ij : i = j
      · subst ij; exact ⟨c, e⟩
      · rw [List.getElem?_set_ne ij] at t; exact ⟨d, t⟩
    obtain ⟨d1, y1⟩ := key j d t1
    obtain ⟨d2, y2⟩ := key k d' t2
    exact x.dist j k d1 d2 b y1 y2 t3 t4
  · by_cases ij : i = j
    · subst ij
      rw [show ({ s with r := s.r.set i (.own c') } : S).r = s.r.set i (.own c') from rfl, List.getElem?_set_self hi] at t
      cases t
    · rw [show ({ s with r := s.r.set i (.own c') } : S).r = s.r.set i (.own c') from rfl, List.getElem?_set_ne ij] at t
      obtain ⟨h1, h2⟩ := x.exc j y t
      exact ⟨h1, h2.pers q'⟩
  · rw [upd_ne (fun t => by subst t; exact k4 z)]
  · by_cases ba : b = a
    · exact ⟨o', by rw [ba, upd_same]⟩
    · exact ⟨u, by rw [upd_ne ba]; exact t⟩
def cellAt (s : S) : RV → Option Cell
  | .hnd i => match s.r[i]? with
    | some (.own c) => some c
    | some (.val (.ref n)) => s.G[n]?
    | _ => none
  | .val (.ref n) => s.G[n]?
  | _ => none
def putAt (s : S) (c : Cell) : RV → S
  | .hnd i => match s.r[i]? with
    | some (.own _) => { s with r := s.r.set i (.own c) }
    | some (.val (.ref n)) => { s with G := s.G.set n c }
    | _ => s
  | .val (.ref n) => { s with G := s.G.set n c }
  | _ => s
theorem cell_ok (S0 : Sim K mg ea io Fr s σ H) {x : RV} (h : RvR K mg io (Ms io Fr s σ) σ H x v) (e : cellAt s x = some c) : ∃ a o, v = .ref a ∧ H a = some o ∧ Ms io Fr s σ a ∧ Rc K mg io (Ms io Fr s σ) H c o ∧
    ∀ c' o', (∀ {H' : Hp}, Pers io (Ms io Fr s σ) H io (Ms io Fr s σ) H' → Rc K mg io (Ms io Fr s σ) H' c' o') → Sim K mg ea io Fr (putAt s c' x) σ (upd H a o') ∧ Stp io (Ms io Fr s σ) Fr H io (Ms io Fr (putAt s c' x) σ) (upd H a o') ∧ (∀ b, Ms io Fr (putAt s c' x) σ b ↔ Ms io Fr s σ b) := by
  have viaRef : ∀ {n : Nat}, Rw K mg io (Ms io Fr s σ) H (.ref n) v → s.G[n]? = some c → ∃ a o, v = .ref a ∧ H a = some o ∧ Ms io Fr s σ a ∧ Rc K mg io (Ms io Fr s σ) H c o ∧
    ∀ c' o', (∀ {H' : Hp}, Pers io (Ms io Fr s σ) H io (Ms io Fr s σ) H' → Rc K mg io (Ms io Fr s σ) H' c' o') → Sim K mg ea io Fr { s with G := s.G.set n c' } σ (upd H a o') ∧ Stp io (Ms io Fr s σ) Fr H io (Ms io Fr { s with G := s.G.set n c' } σ) (upd H a o') ∧ (∀ b, Ms io Fr { s with G := s.G.set n c' } σ b ↔ Ms io Fr s σ b) := by
    intro n hr hg
    cases hr with
    | ref hn =>
      rename_i a
      obtain ⟨o, ho, hc⟩ := S0.g.cell n a c hn hg
      refine ⟨a, o, rfl, ho, .inl (List.mem_of_getElem? hn), hc, fun c' o' f => ?_⟩
      obtain ⟨S1, T1⟩ := S0.setCell hn f
      exact ⟨S1, T1, fun b => Iff.rfl⟩
  cases x with
  | own c => exact h.elim
  | val w =>
    cases w with
    | ref n => exact viaRef h e
    | _ => cases e
  | hnd i =>
    have h' : σ[i]? = some (some v) := h
    simp only [cellAt] at e
    split at e
    · rename_i c0 q
      cases e
      obtain ⟨a, o, h1, h2, h3, h4⟩ := S0.own i _ q
      rw [h'] at h1
      cases h1
      refine ⟨a, o, rfl, h2, .inr (.inr ⟨i, _, q, h'⟩), h3, fun c' o' f => ?_⟩
      obtain ⟨S1, T1⟩ := S0.setOwnCell q h' f
      have ep : putAt s c' (.hnd i) = { s with r := s.r.set i (.own c') } := by simp only [putAt, q]
      rw [ep]
      exact ⟨S1, T1, fun b => ms_own q b⟩
    · rename_i n q
      obtain ⟨u, h1, h2⟩ := S0.val i _ q
      rw [h'] at h1
      cases h1
      obtain ⟨a, o, k1, k2, k3, k4, k5⟩ := viaRef h2 e
      refine ⟨a, o, k1, k2, k3, k4, fun c' o' f => ?_⟩
      have ep : putAt s c' (.hnd i) = { s with G := s.G.set n c' } := by simp only [putAt, q]
      rw [ep]
      exact k5 c' o' f
    · cases e
def MutR (K : PySem.W.Frag) (mg : Str → Option Value) (r : V → List V → Hp → VK → Prop) (f : Cell → List W → Option (W × Cell)) : Prop :=
  ∀ io M H a o c ws vs w c' Q, H a = some o → Rc K mg io M H c o → Rws K mg io M H ws vs → f c ws = some (w, c') → M a →
    (∀ o' v, (∀ {H' : Hp}, Pers io M H io M H' → Rc K mg io M H' c' o') → Rw K mg io M H w v → Q v (upd H a o')) → r (.ref a) vs H Q
inductive CK where
  | lst
  | dict
def CK.ty : CK → String
  | .lst => "list"
  | .dict => "dict"
def CK.fits : CK → Cell → Bool
  | .lst, .lst _ => true
  | .dict, .dK _ => true
  | .dict, .dT _ => true
  | _, _ => false
theorem fits_ty {k : CK} (h : k.fits c = true) (ha : H a = some o) (r : Rc K mg io M H c o) : tyV K k.ty (.ref a) H := by
  cases k <;> cases c <;> simp [CK.fits] at h
  · obtain ⟨vs, rfl, _⟩ := r
    exact .inl ⟨rfl, vs, .inl (.inl ha)⟩
  · obtain ⟨vs, rfl, _⟩ := r
    exact .inr (.inr (.inl ⟨rfl, .inl ⟨vs, ha⟩⟩))
  · obtain ⟨vs, rfl, _⟩ := r
    exact .inr (.inr (.inl ⟨rfl, .inr ⟨vs, ha⟩⟩))
def mMut (k : CK) (f : Cell → List W → Option (W × Cell)) (mo : Mo RV) (ms : Mo (List RV)) : Mo RV := bnd mo fun x s => if ((cellAt s (settle x)).map k.fits) = some true then (bnd ms fun xs => bnd (freezeAll xs) fun ws s2 => match cellAt s2 (settle x) with
  | some c => (match f c ws with
    | some (w, c') => some (.ok (.val w), putAt s2 c' (settle x))
    | none => none)
  | none => none) s else none
theorem ref_mut {k : CK} {f : Cell → List W → Option (W × Cell)} {r : V → List V → Hp → VK → Prop} (hr : MutR K mg r f) {ta : TE} {t : TA} {mo : Mo RV} {ms : Mo (List RV)} (ho : RefE K mg ea Wx ta mo) (ha : RefA K mg ea Wx t ms) :
    RefE K mg ea Wx (tBM K k.ty r ta t) (mMut k f mo ms) := by
  intro σ H io Fr s S0 r0 s' e Q hok hex
  refine one2 ho S0 e hex fun x vx s1 H1 io1 e2 px => ?_
  obtain ⟨S1, T1, R1⟩ := px.settled
  split at e2
  · rename_i hc
    obtain ⟨c1, h1, h2⟩ := Option.map_eq_some_iff.mp hc
    obtain ⟨a, o, rfl, hH, hM, hR, _⟩ := cell_ok S1 R1 h1
    refine ⟨fits_ty h2 hH hR, ?_⟩
    refine arg2 ha S1 e2 (fun x q cls d H' io' p => hex x q cls d H' io' ⟨p.1, T1.trans p.2.1, p.2.2⟩) fun xs vs s4 H4 io4 e7 p4 R4 => ?_
    rcases bnd_some e7 with ⟨x, e8, rfl⟩ | ⟨ws, s5, e8, e9⟩
    · obtain ⟨_, _, _, _, q, _⟩ := freezeAll_ok p4.1 R4 e8
      cases q
    · obtain ⟨_, m5, S5, ws', q, r5⟩ := freezeAll_ok p4.1 R4 e8
      cases q
      have T5 := (T1.trans p4.2).less m5
      have R5 := RvR.pers ⟨fun _ _ h _ => h, fun a z => .inl (m5 a z), fun _ _ h => h⟩ (RvR.pers p4.2.p R1)
      split at e9
      · rename_i c5 hc5
        split at e9
        · rename_i w c' hf
          obtain ⟨a', o', h1, h2, h3, h4, h5⟩ := cell_ok S5 R5 hc5
          cases h1
          refine hr io4 _ H4 a o' c5 _ vs w c' Q h2 h4 r5 hf h3 fun o2 v f2 rw2 => ?_
          obtain ⟨S6, T6, m6⟩ := h5 c' o2 f2
          cases e9
          exact hok _ rfl v _ io4 ⟨S6, T5.trans T6, rw2.pers T6.p⟩
        · cases e9
      · cases e9
  · cases e2
def fAppend : Cell → List W → Option (W × Cell)
  | .lst ws, [w] => if ws.length < sz then some (.non, .lst (ws ++ [w])) else none
  | _, _ => none
theorem mu_append : MutR K mg rAppend fAppend := by
  intro io M H a o c ws vs w c' Q ha hR hw e hM q
  unfold fAppend at e
  split at e
  · rename_i xs y
    split at e
    · rename_i hz
      cases e
      obtain ⟨us, rfl, r⟩ := hR
      obtain ⟨v, rest, rfl, h1, h2⟩ := hw.cons_inv
      have := h2.nil_inv
      subst this
      refine ⟨a, us, v, rfl, rfl, ha, ?_, q _ .non (fun {H'} p => ⟨_, rfl, (r.pers p).append (Rws.one (h1.pers p))⟩) .non⟩
      rw [← r.1, sizeLine_eq]; exact hz
    · cases e
  · cases e
end
abbrev FewArgs (X : Cx) (at_ : Pos) (args : List Expr) : Prop :=
  (((backTo at_ (starEach args X.env)).all fun x => !x.1) && ((backToKw at_ (keywordEach [] X.env)).all fun x => x.1.isSome) && decide (args.length + ([] : List Keyword).length + (if ([] : List Keyword).isEmpty then 0 else 1) < 30)) = true
section
variable {X : Cx} {ea : EA} {Wx : WX} {e o : Expr} {es : List Expr} {mo mv : Mo RV} {ms : Mo (List RV)} {p pos apos cpos tpos : Pos} {name : Str} {id : String} {r : V → List V → Hp → VK → Prop} {f : Cell → List W → Option (W × Cell)} {k : CK}
theorem pee_mut (pa : PlainAttrs k.ty) (slot : Slot k.ty name id) (hty : typeOf (.builtin id) = pure (.type "method_descriptor")) (hm : MtR X id r) (hf : MutR X.K X.mg r f) (ho : Pee X ea Wx o mo) (ha : Pea X ea Wx (e :: es) ms)
    (hbase : attributeBase o name X.env (eval o X.env) = eval o X.env := by rfl)
    (hfew : FewArgs X cpos (e :: es) := by rfl)
    (hs : starEach (e :: es) X.env = (false, eval e X.env) :: starEach es X.env := by rfl) (hline : (apos.endLine == cpos.line) = true := by rfl) (hplain : (backTo cpos (starEach es X.env)).any (·.1) = false := by rfl) :
    Pee X ea Wx (.Call (.Attribute o name apos) (e :: es) [] cpos) (mMut k f mo ms) := by
  obtain ⟨t, q, rr⟩ := ho.ex
  obtain ⟨t', q', rr'⟩ := ha.ex
  exact ⟨_, pe_bm pa slot hty hm q q' hbase hfew hline hs hplain, ref_mut hf rr rr'⟩
end
end Z
set_option Elab.async false
set_option linter.all false
set_option maxRecDepth 100000
namespace Z
open PySem PySem.Spec PyProof.Rows L2
section
variable {K : PySem.W.Frag} {mg : Str → Option Value} {ea : EA} {io io' : List Addr} {Fr Fr' : Addr → Prop} {s s' s2 : S} {σ σ' : L2.St} {H H' : Hp} {w : W} {v : V} {c c' : Cell} {o o' : HO} {a p C : Addr} {ws : List W} {vs : List V} {M M' : Addr → Prop} {Wx : WX}
def SetR (K : PySem.W.Frag) (mg : Str → Option Value) (r : TSet) (f : Cell → W → W → Option Cell) : Prop :=
  ∀ io M H a o c wi wv vi vv c' Q, H a = some o → Rc K mg io M H c o → Rw K mg io M H wi vi → Rw K mg io M H wv vv → f c wi wv = some c' →
    (∀ o', (∀ {H' : Hp}, Pers io M H io M H' → Rc K mg io M H' c' o') → Q (upd H a o')) → r (.ref a) vi vv H Q
def orf3 (f g : Cell → W → W → Option Cell) : Cell → W → W → Option Cell := fun c i w => match f c i w with
  | some z => some z
  | none => g c i w
theorem SetR.or {r r' : TSet} {f f' : Cell → W → W → Option Cell} (h : SetR K mg r f) (h' : SetR K mg r' f') : SetR K mg (fun o i v H Q => r o i v H Q ∨ r' o i v H Q) (orf3 f f') := by
  intro io M H a o c wi wv vi vv c' Q ha hr hi hv e q
  unfold orf3 at e
  cases k : f c wi wv with
  | some z =>
    rw [k] at e
    cases e
    exact .inl (h io M H a o c wi wv vi vv _ Q ha hr hi hv k q)
  | none =>
    rw [k] at e
    exact .inr (h' io M H a o c wi wv vi vv _ Q ha hr hi hv e q)
theorem PSet.or {X : Cx} {r r' : TSet} (h : PSet X r) (h' : PSet X r') : PSet X (fun o i v H Q => r o i v H Q ∨ r' o i v H Q) := by
  intro pins s σ H o i v ov iv u Q I ro ri rv q
  rcases q with q | q
  · exact h pins s σ H o i v ov iv u Q I ro ri rv q
  · exact h' pins s σ H o i v ov iv u Q I ro ri rv q
def putW {κ : Type} [DecidableEq κ] (kvs : List (κ × W)) (k : κ) (w : W) : List (κ × W) := if (kvs.any fun kv => decide (kv.1 = k)) = true then kvs.map fun kv => if kv.1 = k then (kv.1, w) else kv else kvs ++ [(k, w)]
theorem Rkv.any {κ : Type} [DecidableEq κ] {k : κ} : ∀ {ws : List (κ × W)} {vs : List (κ × V)}, Rkv K mg io M H ws vs → (ws.any fun kv => decide (kv.1 = k)) = (vs.any fun kv => decide (kv.1 = k))
  | [], vs, h => by rw [h.nil_inv]; rfl
  | (k', w) :: ws, vs, h => by
    obtain ⟨v, r, rfl, h1, h2⟩ := h.cons_inv
    simp only [List.any_cons]
    rw [Rkv.any h2]
theorem Rkv.repl {κ : Type} [DecidableEq κ] {k : κ} (hw : Rw K mg io M H w v) : ∀ {ws : List (κ × W)} {vs : List (κ × V)}, Rkv K mg io M H ws vs → Rkv K mg io M H (ws.map fun kv => if kv.1 = k then (kv.1, w) else kv) (vs.map fun kv => if kv.1 = k then (kv.1, v) else kv)
  | [], vs, h => by rw [h.nil_inv]; exact Rkv.nil
  | (k', w') :: ws, vs, h => by
    obtain ⟨u, r, rfl, h1, h2⟩ := h.cons_inv
    simp only [List.map_cons]
    by_cases e : k' = k
    · rw [if_pos e, if_pos e]; exact Rkv.cons hw (Rkv.repl hw h2)
    · rw [if_neg e, if_neg e]; exact Rkv.cons h1 (Rkv.repl hw h2)
theorem Rkv.put {κ : Type} [DecidableEq κ] {k : κ} (hw : Rw K mg io M H w v) {ws : List (κ × W)} {vs : List (κ × V)} (h : Rkv K mg io M H ws vs) : Rkv K mg io M H (putW ws k w) (putK vs k v) := by
  unfold putW putK
  rw [Rkv.any h]
  split
  · exact h.repl hw
  · exact h.append (Rkv.cons hw Rkv.nil)
def RefO (K : PySem.W.Frag) (mg : Str → Option Value) (ea : EA) (Wx : WX) (t : TO) (m : Mo (Option Int)) : Prop := ∀ (σ : L2.St) (H : Hp) (io : List Addr) (Fr : Addr → Prop) (s : S), Sim K mg ea io Fr s σ H → ∀ r s', m s = some (r, s') → ∀ Q : Option Int → Hp → Prop,
  (∀ b, r = .ok b → ∀ H' io', PostS K mg ea io Fr s σ H s' σ io' H' → Q b H') → (∀ x, r = .error x → ∀ cls d H' io', PostX K mg ea io Fr s σ H s' σ io' H' x cls d → Wx cls d σ H') → t σ H Q
def truW : W → Option Bool
  | .non => some false
  | .bl b => some b
  | .int i => some (i != 0)
  | .str y => if y.length ≤ sz then some ((y.length : Int) != 0) else none
  | .byt y => if y.size ≤ sz then some ((y.size : Int) != 0) else none
  | .lst ws => some (!ws.isEmpty)
  | .frl ws => some (!ws.isEmpty)
  | .tup ws => some (!ws.isEmpty)
  | _ => none
theorem Rws.emp (h : Rws K mg io M H ws vs) : ws.isEmpty = vs.isEmpty := by
  have := h.1
  cases ws <;> cases vs <;> simp_all
theorem tru_hr {x : W} {vx : V} {b : Bool} (rx : Rn K mg io M H x vx) (e : truW x = some b) : TruV K vx H b := by
  have hs : (sizeLine : Nat) = sz := sizeLine_eq
  cases x with
  | non =>
    cases e
    rcases rx with h | ⟨c, o, a, e, rfl, ha, hc⟩
    · cases h; rfl
    · cases c <;> cases e
  | bl k => cases e; obtain rfl := rx.bl; rfl
  | int i => cases e; obtain rfl := rx.int; rfl
  | str y =>
    obtain rfl := rx.str
    simp only [truW] at e
    split at e
    · rename_i hz
      cases e
      exact ⟨by rw [hs]; exact hz, rfl⟩
    · cases e
  | byt y =>
    obtain rfl := rx.byt
    simp only [truW] at e
    split at e
    · rename_i hz
      cases e
      exact ⟨by rw [hs]; exact hz, rfl⟩
    · cases e
  | lst ws =>
    cases e
    obtain ⟨a, vs, rfl, h, r⟩ := rx.lst
    exact .inl ⟨vs, .inl (.inl h), by rw [r.emp]⟩
  | frl ws =>
    cases e
    obtain ⟨a, vs, rfl, h, r⟩ := rx.frl
    exact .inl ⟨vs, h, by rw [r.emp]⟩
  | tup ws =>
    cases e
    obtain ⟨a, vs, rfl, h, r⟩ := rx.tup
    exact .inr (.inl ⟨vs, h, by rw [r.emp]⟩)
  | _ => cases e
def liftB (z : Option Bool) : Mo Bool := match z with
  | some b => ret b
  | none => stk
theorem liftB_some {z : Option Bool} {r : Except Ex Bool} (h : liftB z s = some (r, s')) : s' = s ∧ ∃ u, z = some u ∧ r = .ok u := by
  cases z with
  | none => cases h
  | some u => cases h; exact ⟨rfl, u, rfl, rfl⟩
def mTru (m : Mo RV) : Mo Bool := bnd m fun x => bnd (look (settle x)) fun w => liftB (truW w)
theorem ref_tru {t : TE} {m : Mo RV} (h : RefE K mg ea Wx t m) : RefT K mg ea Wx (fun σ H Q => t σ H fun x H' => ∃ k, TruV K x H' k ∧ Q k H') (mTru m) := by
  intro σ H io Fr s S0 r0 s' e Q hok hex
  refine one2 h S0 e hex fun x v s1 H1 io1 e2 px => ?_
  obtain ⟨S1, T1, R1⟩ := px.settled
  rcases bnd_some e2 with ⟨z, e5, rfl⟩ | ⟨wx, s3, e5, e6⟩
  · obtain ⟨_, _, q, _⟩ := look_ok S1 R1 e5
    cases q
  · obtain ⟨rfl, wx', q, nx⟩ := look_ok S1 R1 e5
    cases q
    obtain ⟨rfl, u, hu, rfl⟩ := liftB_some e6
    exact ⟨u, tru_hr nx hu, hok _ rfl H1 io1 ⟨S1, T1⟩⟩
def mChain (f g : W → W → Option OR) (ma mb mc : Mo RV) : Mo RV := bnd ma fun x => bnd mb fun y => bnd (mB (opM f (settle x) (settle y))) fun k => if k = true then bnd mc fun z => opM g (settle y) (settle z) else ret (.val (.bl false))
theorem ref_chain {X : Cx} {r r' : R2} {f g : W → W → Option OR} (hr : ∀ io M H x y vx vy z Q, Rn K mg io M H x vx → Rn K mg io M H y vy → f x y = some z → OQ K mg io M H z Q → r vx vy H Q)
    (hr' : ∀ io M H x y vx vy z Q, Rn K mg io M H x vx → Rn K mg io M H y vy → g x y = some z → OQ K mg io M H z Q → r' vx vy H Q)
    {ta tb tc : TE} {ma mb mc : Mo RV} (ha : RefE K mg ea Wx ta ma) (hb : RefE K mg ea Wx tb mb) (hc : RefE K mg ea Wx tc mc) : RefE K mg ea Wx (tChain r r' ta tb tc) (mChain f g ma mb mc) := by
  intro σ H io Fr s S0 r0 s' e Q hok hex
  refine one2 ha S0 e hex fun x vx s1 H1 io1 e2 px => ?_
  obtain ⟨S1, T1, R1⟩ := px.settled
  refine one2 hb S1 e2 (fun x q cls d H' io' px => hex x q cls d H' io' ⟨px.1, T1.trans px.2.1, px.2.2⟩) fun y vy s2 H2 io2 e3 py => ?_
  obtain ⟨S2, T2', R2⟩ := py.settled
  have T2 := T1.trans T2'
  have R1' := R1.pers T2'.p
  rcases bnd_some e3 with ⟨z, e4, rfl⟩ | ⟨k, s3, e4, e5⟩
  · rcases bnd_some e4 with ⟨z', e6, _⟩ | ⟨q, s4, e6, e7⟩
    · unfold opM at e6
      rcases bnd_some e6 with ⟨z, e8, _⟩ | ⟨wx, s5, e8, e9⟩
      · obtain ⟨_, _, q, _⟩ := look_ok S2 R1' e8
        cases q
      · obtain ⟨rfl, wx', q, nx⟩ := look_ok S2 R1' e8
        cases q
        rcases bnd_some e9 with ⟨z, e10, _⟩ | ⟨wy, s6, e10, e11⟩
        · obtain ⟨_, _, q, _⟩ := look_ok S2 R2 e10
          cases q
        · obtain ⟨rfl, wy', q, ny⟩ := look_ok S2 R2 e10
          cases q
          obtain ⟨_, u, _, h⟩ := liftO_some e11
          cases h
    · obtain ⟨_, b, _, h⟩ := toB_some e7
      cases h
  · rcases bnd_some e4 with ⟨z', e6, h⟩ | ⟨q, s4, e6, e7⟩
    · cases h
    · obtain ⟨rfl, b, rfl, hb'⟩ := toB_some e7
      cases hb'
      unfold opM at e6
      rcases bnd_some e6 with ⟨z, e8, h⟩ | ⟨wx, s5, e8, e9⟩
      · cases h
      · obtain ⟨rfl, wx', q, nx⟩ := look_ok S2 R1' e8
        cases q
        rcases bnd_some e9 with ⟨z, e10, h⟩ | ⟨wy, s6, e10, e11⟩
        · cases h
        · obtain ⟨rfl, wy', q, ny⟩ := look_ok S2 R2 e10
          cases q
          obtain ⟨rfl, u, hu, h⟩ := liftO_some e11
          cases u with
          | imm w =>
            cases h
            refine hr _ _ _ _ _ _ _ _ _ nx ny hu fun v rv => ?_
            cases rv
            refine ⟨k, rfl, ?_⟩
            cases k with
            | false =>
              rw [if_neg (by simp)]
              cases e5
              exact hok _ rfl _ _ _ ⟨S2, T2, .bl _⟩
            | true =>
              rw [if_pos rfl]
              refine one2 hc S2 e5 (fun x q cls d H' io' px => hex x q cls d H' io' ⟨px.1, T2.trans px.2.1, px.2.2⟩) fun z vz s7 H7 io7 e12 pz => ?_
              obtain ⟨S7, T7', R7⟩ := pz.settled
              have T7 := T2.trans T7'
              have R2' := R2.pers T7'.p
              unfold opM at e12
              rcases bnd_some e12 with ⟨z, e13, rfl⟩ | ⟨wy2, s8, e13, e14⟩
              · obtain ⟨_, _, q, _⟩ := look_ok S7 R2' e13
                cases q
              · obtain ⟨rfl, wy', q, ny2⟩ := look_ok S7 R2' e13
                cases q
                rcases bnd_some e14 with ⟨z, e15, rfl⟩ | ⟨wz, s9, e15, e16⟩
                · obtain ⟨_, _, q, _⟩ := look_ok S7 R7 e15
                  cases q
                · obtain ⟨rfl, wz', q, nz⟩ := look_ok S7 R7 e15
                  cases q
                  obtain ⟨rfl, u2, hu2, rfl⟩ := liftO_some e16
                  exact hr' _ _ _ _ _ _ _ _ _ ny2 nz hu2 (OQ.post S7 T7 fun v H3 io3 px => hok _ rfl v H3 io3 px)
          | newl ws => cases h
          | newt ws => cases h
end
section
variable {X : Cx} {ea : EA} {Wx : WX} {e o i a b c : Expr} {mo mv mi ma mb mc : Mo RV} {pos p2 tpos : Pos} {r : TSet} {f g : W → W → Option OR}
structure Peo (X : Cx) (ea : EA) (Wx : WX) (e : Option Expr) (m : Mo (Option Int)) : Prop where
  ex : ∃ t, PO X e t ∧ RefO X.K X.mg ea Wx t m
theorem pet_tru (ha : Pee X ea Wx a ma) (he : ∀ whole, isTrue a X.env whole = (do let v ← whole; standAt a.pos; holding [v] (truthy v)) := by intro _; rfl) : Pet X ea Wx a (mTru ma) :=
  let ⟨_, q, r⟩ := ha.ex; ⟨_, pt_truth q he, ref_tru r⟩
theorem pee_chain {op op' : CmpOp} (ho : OpM X (compareOp op) f) (ho' : OpM X (compareOp op') g) (ha : Pee X ea Wx a ma) (hb : Pee X ea Wx b mb) (hc : Pee X ea Wx c mc)
    (hm : lastMarks [op, op'] [b, c] = false := by with_unfolding_all rfl) : Pee X ea Wx (.Compare a [op, op'] [b, c] pos) (mChain f g ma mb mc) := by
  obtain ⟨r1, p1, w1⟩ := ho
  obtain ⟨r2, p2, w2⟩ := ho'
  obtain ⟨t, q, rr⟩ := ha.ex
  obtain ⟨t', q', rr'⟩ := hb.ex
  obtain ⟨t2, q2, rr2⟩ := hc.ex
  exact ⟨_, pe_chain p1 p2 q q' q2 hm, ref_chain (X := X) w1 w2 rr rr' rr2⟩
theorem pet_chain {op op' : CmpOp} (ho : OpM X (compareOp op) f) (ho' : OpM X (compareOp op') g) (ha : Pee X ea Wx a ma) (hb : Pee X ea Wx b mb) (hc : Pee X ea Wx c mc)
    (hm : lastMarks [op, op'] [b, c] = false := by with_unfolding_all rfl) : Pet X ea Wx (.Compare a [op, op'] [b, c] pos) (mB (mChain f g ma mb mc)) := by
  obtain ⟨r1, p1, w1⟩ := ho
  obtain ⟨r2, p2, w2⟩ := ho'
  obtain ⟨t, q, rr⟩ := ha.ex
  obtain ⟨t', q', rr'⟩ := hb.ex
  obtain ⟨t2, q2, rr2⟩ := hc.ex
  exact ⟨_, pt_chain p1 p2 q q' q2 hm, ref_test (ref_chain (X := X) w1 w2 rr rr' rr2)⟩
end
end Z
set_option Elab.async false
set_option linter.all false
set_option maxRecDepth 100000
namespace Z
open PySem PySem.Spec PyProof.Rows L2
section
variable {X : Cx} {ea : EA} {Wx : WX} {e : Expr} {es : List Expr} {st : Stmt} {sts : List Stmt}
theorem pes_dead : Pes X ea Wx st stk := ⟨fun _ _ _ => False, ⟨fun _ _ _ _ _ _ h => h.elim⟩, fun σ H io Fr s S0 r s' e => by cases e⟩
end
inductive CT where
  | ty (n : String)
  | own (nm : Str)
deriving DecidableEq
def CT.Is (mg : Str → Option Value) : CT → Value → Prop
  | .ty n, v => v = .type n
  | .own nm, v => ∃ C, mg nm = some (.ref C) ∧ v = .ref C
def tyOfW : W → Option CT
  | .non => some (.ty "NoneType")
  | .bl _ => some (.ty "bool")
  | .int _ => some (.ty "int")
  | .str _ => some (.ty "str")
  | .byt _ => some (.ty "bytes")
  | .tup _ => some (.ty "tuple")
  | .lst _ => some (.ty "list")
  | .frl _ => some (.ty "list")
  | .dK _ => some (.ty "dict")
  | .dT _ => some (.ty "dict")
  | .dF _ => some (.ty "dict")
  | .obj nm _ => some (.own nm)
  | .slt _ _ => none
  | .ref _ => none
inductive TyY (K : PySem.W.Frag) (H : Hp) : V → Value → Prop where
  | base {x : V} {t : Value} (h : TyX K H x t) : TyY K H x t
  | fT {a : Addr} {o : Obj} {kvs : List (List Key × V)} (e : H a = some (.frz o (.dT kvs))) : TyY K H (.ref a) (.type "dict")
theorem kit_ofY {X : Cx} {pins : List (Addr × Obj)} {σ : L2.St} {H : Hp} {s : Shared} {x : V} {u t : Value} (I : Inv X pins σ H s) (rx : RelV x u) (ty : TyY X.K H x t) : ∃ P : Heap → Prop, PySem.W.KitX X.K u t P ∧ P s.heap ∧ u ≠ .builtin "__main__.__loader__#opaque" := by
  rcases ty with h | e
  · exact kit_of I rx h
  · rename_i a ob kvs
    cases rx
    obtain ⟨_, _, _, _, _, o, _, _, here, exact', _⟩ := (show ObjOk X.prog X.w H s.heap a (.frz ob (.dT kvs)) from I.hok a _ e)
    exact ⟨_, PySem.W.kitx_dict, ⟨o, here, exact'.1⟩, nofun⟩
def rIsY (K : PySem.W.Frag) (u : Value) : List V → Hp → VK → Prop := fun xs H Q => ∃ (x c : V) (t : Value) (b : Bool), xs = [x, c] ∧ ClsV c u ∧ TyY K H x t ∧ PySem.W.kitOne K t u = some b ∧ Q (.bl b) H
theorem call_isY {X : Cx} {u : Value} : CallR X (.builtin "isinstance") (rIsY X.K u) := by
  rintro pins s σ H _ _ Q I r ⟨x, c, t, b, rfl, k, ty, e, q⟩
  obtain ⟨v, k2, rfl, rv, rk⟩ := vals2 r
  cases k.eq rk
  exact let ⟨_, Z, p, no⟩ := kit_ofY I rv ty; PySem.W.kia_one Z I.kIn p e no fun tk => ⟨_, H, I.tok tk, show RelV (.bl b) _ from rfl, q⟩
section
variable {K : PySem.W.Frag} {mg : Str → Option Value} {ea : EA} {io io' : List Addr} {Fr Fr' : Addr → Prop} {s s' s2 : S} {σ σ' : L2.St} {H H' : Hp} {w : W} {v : V} {c c' : Cell} {o o' : HO} {a p C : Addr} {ws : List W} {vs : List V} {M M' : Addr → Prop} {Wx : WX}
theorem Rn.ty {ct : CT} (h : Rn K mg io M H w v) (e : tyOfW w = some ct) (hF : ∀ nm, ct = .own nm → ∃ C, mg nm = some (.ref C) ∧ C8.InsC K C) : ∃ t, ct.Is mg t ∧ TyY K H v t := by
  cases w with
  | non =>
    cases e
    rcases h with h | ⟨c, o, a, e, rfl, ha, hc⟩
    · cases h; exact ⟨_, rfl, .base (.base .non)⟩
    · cases c <;> cases e
  | bl b => cases e; obtain rfl := h.bl; exact ⟨_, rfl, .base (.base (.bl b))⟩
  | int b => cases e; obtain rfl := h.int; exact ⟨_, rfl, .base (.base (.int b))⟩
  | str b => cases e; obtain rfl := h.str; exact ⟨_, rfl, .base (.base (.str b))⟩
  | byt b => cases e; obtain rfl := h.byt; exact ⟨_, rfl, .base (.byt b)⟩
  | tup ws =>
    cases e
    rcases h with h | ⟨c, o, a, e, rfl, ha, hc⟩
    · cases h with
      | tup h l q =>
        rcases h with ⟨h, _⟩ | ⟨⟨o, its, n, k1, k2, _⟩, _⟩
        · exact ⟨_, rfl, .base (.base (.tup h))⟩
        · exact ⟨_, rfl, .base (.kTuple k1 k2)⟩
    · cases c <;> cases e
  | lst ws =>
    cases e
    obtain ⟨a, vs, rfl, h, r⟩ := h.lst
    exact ⟨_, rfl, .base (.base (.lst h))⟩
  | frl ws =>
    cases e
    rcases h with h | ⟨c, o, a, e, rfl, ha, hc⟩
    · cases h with
      | frl h l q =>
        rcases h with ⟨h, _⟩ | ⟨o, its, n, k1, k2, _⟩
        · rcases h with h | ⟨oo, h⟩
          · exact ⟨_, rfl, .base (.base (.lst h))⟩
          · exact ⟨_, rfl, .base (.base (.frz h))⟩
        · exact ⟨_, rfl, .base (.kList k1 k2)⟩
    · cases c <;> cases e
  | dK kvs =>
    cases e
    rcases h with h | ⟨c, o, a, e, rfl, ha, hc⟩
    · cases h with
      | dK h l q r =>
        rcases h with h | ⟨oo, h⟩
        · exact ⟨_, rfl, .base (.base (.dK h))⟩
        · exact ⟨_, rfl, .base (.fDict h)⟩
    · cases c <;> cases e
      obtain ⟨vs, rfl, _⟩ := hc
      exact ⟨_, rfl, .base (.base (.dK ha))⟩
  | dT kvs =>
    cases e
    rcases h with h | ⟨c, o, a, e, rfl, ha, hc⟩
    · cases h with
      | dT h l q r =>
        rcases h with h | ⟨oo, h⟩
        · exact ⟨_, rfl, .base (.base (.dT h))⟩
        · exact ⟨_, rfl, .fT h⟩
    · cases c <;> cases e
      obtain ⟨vs, rfl, _⟩ := hc
      exact ⟨_, rfl, .base (.base (.dT ha))⟩
  | dF kvs =>
    cases e
    rcases h with h | ⟨c, o, a, e, rfl, ha, hc⟩
    · cases h with
      | dF h l q r => exact ⟨_, rfl, .fT h⟩
    · cases c <;> cases e
  | obj nm fs =>
    cases e
    obtain ⟨C, hm, ic⟩ := hF nm rfl
    obtain ⟨a, C', dx, vs, rfl, hm', ha, r⟩ := h.obj
    rw [hm] at hm'
    cases hm'
    exact ⟨_, ⟨C, hm, rfl⟩, .base (.base (.ins ha ic.cl ic.ha ic.hn ic.htk ic.hm))⟩
  | slt nm ws => cases e
  | ref n => cases e
def tabAt {α : Type} : List (CT × α) → CT → Option α
  | [], _ => none
  | (c, b) :: r, d => if c = d then some b else tabAt r d
structure IsTab (K : PySem.W.Frag) (mg : Str → Option Value) (u : Value) (tab : List (CT × Bool)) : Prop where
  at' : ∀ c b, tabAt tab c = some b → (∀ t, c.Is mg t → PySem.W.kitOne K t u = some b) ∧ ∀ nm, c = .own nm → ∃ C, mg nm = some (.ref C) ∧ C8.InsC K C
theorem IsTab.nil {u : Value} : IsTab K mg u [] := ⟨fun c b h => by cases h⟩
theorem IsTab.ty {u : Value} {tab : List (CT × Bool)} {n : String} {b : Bool} (h : PySem.W.kitOne K (.type n) u = some b) (r : IsTab K mg u tab) : IsTab K mg u ((.ty n, b) :: tab) := ⟨fun c b' e => by
  unfold tabAt at e
  split at e
  · rename_i hc
    subst hc
    cases e
    exact ⟨fun t ht => by cases ht; exact h, fun nm q => by cases q⟩
  · exact r.at' c b' e⟩
theorem IsTab.own {u : Value} {tab : List (CT × Bool)} {nm : Str} {b : Bool} (hm : mg nm = some (.ref C)) (ic : C8.InsC K C) (h : PySem.W.kitOne K (.ref C) u = some b) (r : IsTab K mg u tab) : IsTab K mg u ((.own nm, b) :: tab) := ⟨fun c b' e => by
  unfold tabAt at e
  split at e
  · rename_i hc
    subst hc
    cases e
    exact ⟨fun t ht => by obtain ⟨D, h1, rfl⟩ := ht; rw [hm] at h1; cases h1; exact h, fun nm' q => by cases q; exact ⟨C, hm, ic⟩⟩
  · exact r.at' c b' e⟩
def mIs (tab : List (CT × Bool)) (m : Mo RV) : Mo RV := bnd m fun x => bnd (look (settle x)) fun w => liftO ((tyOfW w).bind fun c => (tabAt tab c).map fun b => .imm (.bl b))
theorem ref_is {u : Value} {cv : V} {tab : List (CT × Bool)} (T : IsTab K mg u tab) (hc : ClsV cv u) {t : TE} {m : Mo RV} (h : RefE K mg ea Wx t m) : RefE K mg ea Wx (fun σ H Q => (tCons t (tCons (tC cv) tNil)) σ H fun xs H1 => rIsY K u xs H1 Q) (mIs tab m) := by
  intro σ H io Fr s S0 r0 s' e Q hok hex
  refine one2 h S0 e hex fun x v s1 H1 io1 e2 px => ?_
  obtain ⟨S1, T1, R1⟩ := px.settled
  rcases bnd_some e2 with ⟨z, e5, rfl⟩ | ⟨wx, s3, e5, e6⟩
  · obtain ⟨_, _, q, _⟩ := look_ok S1 R1 e5
    cases q
  · obtain ⟨rfl, wx', q, nx⟩ := look_ok S1 R1 e5
    cases q
    obtain ⟨rfl, z, hu, rfl⟩ := liftO_some e6
    obtain ⟨ct, h1, h2⟩ := Option.bind_eq_some_iff.mp hu
    obtain ⟨b, h3, rfl⟩ := Option.map_eq_some_iff.mp h2
    obtain ⟨k1, k2⟩ := T.at' ct b h3
    obtain ⟨t, ht, ty⟩ := nx.ty h1 k2
    exact ⟨v, cv, t, b, rfl, hc, ty, k1 t ht, hok _ rfl _ _ _ ⟨S1, T1, .bl b⟩⟩
def XfN (K : PySem.W.Frag) (mg : Str → Option Value) (nms : List Str) (f : Str) : Prop := ∀ nm ∈ nms, ∃ C, mg nm = some (.ref C) ∧ XfC K C ∧ PySem.W.findIn K (.ref C) f = some none
theorem XfN.nil {f : Str} : XfN K mg [] f := fun nm h => by cases h
theorem XfN.cons {f nm : Str} {nms : List Str} (hm : mg nm = some (.ref C)) (h : XfC K C) (hn : PySem.W.findIn K (.ref C) f = some none) (r : XfN K mg nms f) : XfN K mg (nm :: nms) f := fun n hh => by
  rcases List.mem_cons.mp hh with rfl | q
  · exact ⟨C, hm, h, hn⟩
  · exact r n q
structure IsTabX (K : PySem.W.Frag) (mg : Str → Option Value) (u : Value) (tab : List (CT × Bool)) : Prop where
  at' : ∀ nm b, tabAt tab (.own nm) = some b → ∃ C, mg nm = some (.ref C) ∧ ExcC K C ∧ PySem.W.kitOne K (.ref C) u = some b
theorem IsTabX.nil {u : Value} : IsTabX K mg u [] := ⟨fun c b h => by cases h⟩
theorem IsTabX.own {u : Value} {tab : List (CT × Bool)} {nm : Str} {b : Bool} (hm : mg nm = some (.ref C)) (ic : ExcC K C) (h : PySem.W.kitOne K (.ref C) u = some b) (r : IsTabX K mg u tab) : IsTabX K mg u ((.own nm, b) :: tab) := ⟨fun c b' e => by
  unfold tabAt at e
  split at e
  · rename_i hc
    cases hc
    cases e
    exact ⟨C, hm, ic, h⟩
  · exact r.at' c b' e⟩
end
section
variable {X : Cx} {ea : EA} {Wx : WX} {e : Expr} {es : List Expr} {m : Mo RV} {u : Value} {cv : V} {tab : List (CT × Bool)} {p p2 pos : Pos} {cn : Str}
theorem pee_is (T : IsTab X.K X.mg u tab) (hc : ClsV cv u) (hn : ∀ p, PE X (.Name cn p) (tC cv)) (hm : X.mg "isinstance" = none) (he : Pee X ea Wx e m) (hg : Gl X "isinstance" := by rfl) (hv : bootBuiltins "isinstance" = some (.builtin "isinstance") := by decide +kernel)
    (hst : starEach [e, .Name cn p2] X.env = (false, eval e X.env) :: starEach [.Name cn p2] X.env := by rfl) (hpl : (backTo pos (starEach [.Name cn p2] X.env)).any (·.1) = false := by rfl)
    (hs2 : starEach [.Name cn p2] X.env = (false, eval (.Name cn p2) X.env) :: starEach [] X.env := by rfl) : Pee X ea Wx (.Call (.Name "isinstance" p) [e, .Name cn p2] [] pos) (mIs tab m) := by
  obtain ⟨t, q, r⟩ := he.ex
  exact ⟨_, pe_callB call_isY hg hm hv (pa_cons q (pa_cons (hn p2) pa_nil hs2) hst) (by decide) (by decide) hst hpl, ref_is T hc r⟩
end
end Z
set_option Elab.async false
set_option linter.all false
set_option maxRecDepth 100000
namespace Z
open PySem PySem.Spec PyProof.Rows L2
structure FnW (P : Program) (w : World) (K : PySem.W.Frag) (mg : Str → Option Value) (base : Heap) (k : Nat) (f : Addr) (fd : FuncData) (ps : List Str) (m : Fn) : Prop where
  run : ∀ (A : Around) (outer : List Env) (s : Shared) (H : Hp) (args : Args) (us : List Value) (vs : List V) (Q : VK) (E : XK), L2H.RoomH k A → Env0 P w K mg base A outer s H → BindsTo s fd args (ps.zip us) → Vals vs us → spM K mg ps.length m vs H Q E →
    codeAny (model P w) A (.call (.ref f) args) (CR (L2.CX P w) outer P w H s Q E) s
theorem par_lives {N ps : List Str} {sc : Scope} {n : Nat} (S : FnScope N ps sc) {us : List Value} : ∀ y ∈ ps.zip us, sc.names.lookup y.1 = some .local ∨ (sc.names.lookup y.1 = some .cell ∧ ((cellsFrom n sc.names []).lookup y.1).isSome = true) := by
  rintro y hy
  exact (S.par y.1 (List.of_mem_zip hy).1).imp id fun q => ⟨q, PySem.W.cellsFrom_some _ _ _ (.inl q)⟩
section
variable {K : PySem.W.Frag} {mg : Str → Option Value}
theorem spM_body {ps N : List Str} {n : Nat} {body : Mo Fl} {t : TS} {vs : List V} {H : Hp} {Q : VK} {E : XK} (hn : N.length = n) (hps : ps.length ≤ n) (rf : RefS K mg ea0 (fun cls d _ H => E cls d H) t body) (sp : spM K mg ps.length (fnM n body) vs H Q E) :
    t { nx := fun _ H' => Q .non H', rt := Q } (L2.start N vs) H := by
  obtain ⟨hl, io, Fr, G, ws, r0, G', g, R, e, hok, hex⟩ := sp
  obtain ⟨S0, mo⟩ := sim_start (ea := ea0) (s := ⟨[], G⟩) hn (by omega) g R
  unfold fnM at e
  have T0 : ∀ {M' : Addr → Prop} {io' : List Addr} {H' : Hp}, Stp io (Ms io Fr ⟨ws.map SV.val ++ List.replicate (n - ws.length) SV.non, G⟩ (L2.start N vs)) Fr H io' M' H' → Stp io (Mu io Fr) Fr H io' M' H' := fun T =>
    (Stp.refl.less fun b z => (mo b).1 z : Stp io (Mu io Fr) Fr H io (Ms io Fr ⟨ws.map SV.val ++ List.replicate (n - ws.length) SV.non, G⟩ (L2.start N vs)) H).trans T
  cases k : body ⟨ws.map SV.val ++ List.replicate (n - ws.length) SV.non, G⟩ with
  | none => rw [k] at e; cases e
  | some pr =>
    obtain ⟨rb, sb⟩ := pr
    rw [k] at e
    refine rf _ _ _ _ _ S0 _ _ k _ (fun q σ' H' io' px => ?_) (fun q σ' H' io' px => ?_) (fun q σ' H' io' px => ?_) (fun f q v H' io' px => ?_) fun xx q cls d σ' H' io' px => ?_
    · subst q
      cases e
      exact hok _ rfl _ _ _ ⟨px.1.g.less (s := sb) fun b z => .inl z, (T0 px.2).less fun b z => z.imp id .inl, .non⟩
    · subst q; cases e
    · subst q; cases e
    · subst q
      cases e
      cases f with
      | val w => exact hok _ rfl v H' io' ⟨px.1, T0 px.2.1, px.2.2⟩
      | own c =>
        obtain ⟨a, o, h1, h2, h3, h4, h5, h6⟩ := px
        exact hok _ rfl v H' io' ⟨a, o, h1, h2, h3, h4, T0 h5, h6⟩
    · subst q
      cases e
      obtain ⟨x1, x2, C, x3, x4, x5⟩ := px
      have le : ∀ b, Mu io' Fr b → Ms io' Fr sb σ' b := fun b z => z.imp id .inl
      refine hex _ rfl cls d H' io' ⟨x1.g.less (s := sb) fun b z => .inl z, (T0 x2).less le, C, x3, x4, x5.imp id ?_⟩
      rintro ⟨dd, us, y1, y2, y3, y4⟩
      exact ⟨dd, us, y1, y2, fun z => y3 (le _ z), y4.pers (.less le)⟩
def gives : Flow → Value
  | .ret u => u
  | _ => .none
theorem body_end {X : Cx} {s' : Shared} {Q : VK} {fl : Flow} (hf : X.fs = frs X.outer) (hx : X.ex = []) (h : SP X [] { nx := fun _ H' => Q .non H', rt := Q } fl s') : CE X.outer X.prog X.w X.H_0 X.s_0 Q (gives fl) s' := by
  have un : ∀ {σ : L2.St} {H' : Hp}, Inv X [] σ H' s' → Un (frs X.outer) [] X.H_0 H' X.s_0.heap s'.heap := fun J => by
    rw [← hf, ← hx]
    exact J.base
  cases fl with
  | next => exact let ⟨_, H', J, q⟩ := h; ⟨.non, H', J.os, J.bare, un J, J.hok, rfl, q⟩
  | ret u => exact let ⟨v, _, H', J, rv, q⟩ := h; ⟨v, H', J.os, J.bare, un J, J.hok, rv, q⟩
  | brk => exact let ⟨_, _, _, q⟩ := h; False.elim q
  | cont => exact let ⟨_, _, _, q⟩ := h; False.elim q
end
section
variable {X : Cx} {ea : EA} {Wx : WX} {e : Expr} {es : List Expr} {ms : Mo (List RV)} {m : Fn} {k : Nat} {f : Addr} {fd : FuncData} {ps : List Str} {x : Str} {p pos pos' p2 : Pos}
theorem call_at {CX : CXT} {A1 : Around} {pins : List (Addr × Obj)} {σ : L2.St} {H : Hp} {s : Shared} {Q : VK} {us : List Value} {E : XK} {Ex : Value → Shared → Prop} (I : Inv X pins σ H s) (h : codeAny (model X.prog X.w) A1 (.call (.ref f) ⟨us, []⟩) (CR CX X.stack X.prog X.w H s Q E) s)
    (ex : ∀ e s', CX X.stack H s E e s' → Ex e s') : wpAny (model X.prog X.w) A1 (call (.ref f) us) (EP X pins σ Q) Ex s := by
  refine wpAny_call (codeAny_mono h ?_)
  rintro (er | (_ | _ | _ | u)) s' q
  · exact ex er s' q
  all_goals first | exact q.elim | exact I.after q
theorem binds0 {pins : List (Addr × Obj)} {σ : L2.St} {H : Hp} {s : Shared} {us : List Value} {n : Nat} (hb : Binds X.K fd ps []) (I : Inv X pins σ H s) (hl : us.length = ps.length) : BindsTo s fd ⟨us, []⟩ (ps.zip us) := by
  simpa using hb s us I.kIn (by simpa using hl)
def quiet (m : Mo RV) : Mo RV := fun s => match m s with
  | some (.ok x, s') => some (.ok x, s')
  | _ => none
def mCallW (n : Nat) (m : Fn) (ms : Mo (List RV)) : Mo RV := bnd ms fun xs => bnd (freezeAll xs) fun ws => if ws.length = n then quiet (callG m ws) else stk
theorem pes_raiseT {C : Addr} {t : Str} {j : Nat} {bmB : List Value} {B newId initId : String} (hC : X.mg x = some (.ref C)) (F : ExcBaseFacts B newId initId bmB) (q : PySem.W.excIn X.K C bmB newId = true) (kC : PySem.W.keepIn X.K (.ref C) = true) (r : Raises X (.ref C)) (tk : Takes X Wx) (hc : X.calm = true := by rfl) (hg : Gl X x := by rfl)
    (hdb : (x == ("__debug__" : Str)) = false := by decide) : Pes X ea Wx (.Raise (some (.Call (.Name x p) [.Constant (.str t) j p2] [] pos)) none pos') (mRaise0 x) :=
  ⟨_, ps_raise hc tk (pmk_own F q hC kC r hg hdb), ref_raise0 hC⟩
end
end Z
set_option Elab.async false
set_option linter.all false
set_option maxRecDepth 100000
namespace Z
open PySem PySem.Spec PyProof.Rows L2
def tOpS (r : L2.St → R2) (ta tb : TE) : TE := fun σ H Q => ta σ H fun x H1 => tb σ H1 fun y H2 => r σ x y H2 Q
def mBinS (f : RV → RV → Mo RV) (ma mb : Mo RV) : Mo RV := bnd ma fun x => bnd mb fun y => f (settle x) (settle y)
section
variable {K : PySem.W.Frag} {mg : Str → Option Value} {ea : EA} {io io' : List Addr} {Fr Fr' : Addr → Prop} {s s' s2 : S} {σ σ' : L2.St} {H H' : Hp} {w : W} {v : V} {c c' : Cell} {o o' : HO} {a p C : Addr} {ws : List W} {vs : List V} {M M' : Addr → Prop} {Wx : WX}
theorem ref_opS {ta tb : TE} {ma mb : Mo RV} {f : RV → RV → Mo RV} {r : L2.St → R2} (ha : RefE K mg ea Wx ta ma) (hb : RefE K mg ea Wx tb mb)
    (hr : ∀ (σ : L2.St) (H : Hp) (io : List Addr) (Fr : Addr → Prop) (s : S), Sim K mg ea io Fr s σ H → ∀ x y vx vy, RvR K mg io (Ms io Fr s σ) σ H x vx → RvR K mg io (Ms io Fr s σ) σ H y vy →
    ∀ r0 s', f x y s = some (r0, s') → ∀ Q : VK, (∀ z, r0 = .ok z → ∀ v H' io', PostE K mg ea io Fr s σ H s' io' H' z v → Q v H') → (∀ z, r0 = .error z → ∀ cls d H' io', PostX K mg ea io Fr s σ H s' σ io' H' z cls d → Wx cls d σ H') → r σ vx vy H Q) :
    RefE K mg ea Wx (tOpS r ta tb) (mBinS f ma mb) := by
  intro σ H io Fr s S0 r0 s' e Q hok hex
  refine bin2 ha hb S0 e hex fun x y s2 vx vy H2 io2 e4 S2 T2 rx ry => ?_
  exact hr σ H2 io2 Fr s2 S2 x y vx vy rx ry r0 s' e4 Q (fun z q v H' io' p => hok z q v H' io' (p.trans T2)) fun z q cls d H' io' p => hex z q cls d H' io' ⟨p.1, T2.trans p.2.1, p.2.2⟩
def chkO (nm : Str) (tys : List CT) : List W → Mo Unit
  | [x, y] => fun s => match derefW s x, (derefW s y).bind tyOfW with
    | some (.obj nm' _), some ct => if nm' = nm ∧ ct ∈ tys then some (.ok (), s) else none
    | _, _ => none
  | _ => stk
def chk1 (nm : Str) : List W → Mo Unit
  | x :: _ => fun s => match derefW s x with
    | some (.obj nm' _) => if nm' = nm then some (.ok (), s) else none
    | _ => none
  | _ => stk
def mOwn2 (nm : Str) (tys : List CT) (m : Fn) (x y : RV) : Mo RV := bnd (freezeAll [x, y]) fun ws => bnd (chkO nm tys ws) fun _ => callG m ws
noncomputable def toLen : RV → Mo RV
  | .val (.int n) => if Lk n then ret (.val (.int n)) else stk
  | _ => stk
noncomputable def mLenO (nm : Str) (m : Fn) (ms : Mo (List RV)) : Mo RV := bnd ms fun xs => bnd (freezeAll xs) fun ws => if ws.length = 1 then bnd (chk1 nm ws) fun _ => bnd (callG m ws) toLen else stk
theorem chk1_ok (S0 : Sim K mg ea io Fr s σ H) {nm : Str} (hC : mg nm = some (.ref C)) (R : Rws K mg io (Ms io Fr s σ) H ws vs) {r : Except Ex Unit} (e : chk1 nm ws s = some (r, s')) : s' = s ∧ r = .ok () ∧ ∃ a dx fs rest, vs = .ref a :: rest ∧ H a = some (.ins C dx fs) := by
  unfold chk1 at e
  split at e
  · rename_i x rest
    split at e
    · rename_i nm' fs hd
      split at e
      · rename_i hc
        subst hc
        cases e
        obtain ⟨v, r', rfl, h1, h2⟩ := R.cons_inv
        obtain ⟨a, C', dx, us, rfl, hm, hH, rk⟩ := (deref_ok S0 h1 hd).obj
        rw [hC] at hm
        cases hm
        exact ⟨rfl, rfl, a, dx, us, r', rfl, hH⟩
      · cases e
    · cases e
  · cases e
structure NfTab (K : PySem.W.Frag) (mg : Str → Option Value) (C : Addr) (tys : List CT) : Prop where
  at' : ∀ ct ∈ tys, (∀ t, ct.Is mg t → PySem.W.notFirst K C t = true) ∧ ∀ nm, ct = .own nm → ∃ C, mg nm = some (.ref C) ∧ C8.InsC K C
theorem NfTab.nil : NfTab K mg C [] := ⟨fun ct h => by cases h⟩
theorem NfTab.ty {tys : List CT} {n : String} (h : PySem.W.notFirst K C (.type n) = true) (r : NfTab K mg C tys) : NfTab K mg C (.ty n :: tys) := ⟨fun ct hh => by
  rcases List.mem_cons.mp hh with rfl | q
  · exact ⟨fun t ht => by cases ht; exact h, fun nm q => by cases q⟩
  · exact r.at' ct q⟩
theorem NfTab.own {tys : List CT} {nm : Str} {D : Addr} (hm : mg nm = some (.ref D)) (ic : C8.InsC K D) (h : PySem.W.notFirst K C (.ref D) = true) (r : NfTab K mg C tys) : NfTab K mg C (.own nm :: tys) := ⟨fun ct hh => by
  rcases List.mem_cons.mp hh with rfl | q
  · exact ⟨fun t ht => by obtain ⟨E, h1, rfl⟩ := ht; rw [hm] at h1; cases h1; exact h, fun nm' q => by cases q; exact ⟨D, hm, ic⟩⟩
  · exact r.at' ct q⟩
theorem chkO_ok (S0 : Sim K mg ea io Fr s σ H) {nm : Str} {tys : List CT} (hC : mg nm = some (.ref C)) (T : NfTab K mg C tys) (R : Rws K mg io (Ms io Fr s σ) H ws vs) {r : Except Ex Unit} (e : chkO nm tys ws s = some (r, s')) :
    s' = s ∧ r = .ok () ∧ ∃ a dx fs y t, vs = [.ref a, y] ∧ H a = some (.ins C dx fs) ∧ TyY K H y t ∧ PySem.W.notFirst K C t = true := by
  unfold chkO at e
  split at e
  · rename_i x y
    split at e
    · rename_i nm' fs ct hd hd2
      split at e
      · rename_i hc
        obtain ⟨rfl, hin⟩ := hc
        cases e
        obtain ⟨v, r', rfl, h1, h2⟩ := R.cons_inv
        obtain ⟨v2, r2, rfl, h3, h4⟩ := h2.cons_inv
        obtain rfl := h4.nil_inv
        obtain ⟨a, C', dx, us, rfl, hm, hH, rk⟩ := (deref_ok S0 h1 hd).obj
        rw [hC] at hm
        cases hm
        obtain ⟨wy, k1, k2⟩ := Option.bind_eq_some_iff.mp hd2
        obtain ⟨k3, k4⟩ := T.at' ct hin
        obtain ⟨t, ht, ty⟩ := (deref_ok S0 h3 k1).ty k2 k4
        exact ⟨rfl, rfl, a, dx, us, v2, t, rfl, hH, ty, k3 t ht⟩
      · cases e
    · cases e
  · cases e
end
theorem relv_ni {z : V} (h : RelV z .notImplemented) : False := by
  cases z <;> first | exact nomatch h | (obtain ⟨t, h⟩ := h; exact nomatch h)
section
variable {X : Cx} {ea : EA} {Wx : WX} {m : Fn} {k n : Nat} {f C : Addr} {fd : FuncData} {ps : List Str} {nm : Str} {A1 : Around}
theorem Sub.env0 {pins : List (Addr × Obj)} {σ : L2.St} {H : Hp} {s : Shared} (sb : Sub X k A1) (I : Inv X pins σ H s) : Env0 X.prog X.w X.K X.mg X.base A1 X.stack s H :=
  { I.env0 with frames := sb.fr.trans I.env0.frames }
theorem inst_of {pins : List (Addr × Obj)} {σ : L2.St} {H : Hp} {s : Shared} {a dx : Addr} {fs : List (Str × V)} (I : Inv X pins σ H s) (h : H a = some (.ins C dx fs)) : ∃ o d, PySem.W.InstAt s.heap a o C d :=
  let ⟨_, J, _⟩ := ins_get I.hok h; let ⟨d, J, _⟩ := J.look; ⟨_, d, J⟩
theorem run_fnSub {pins : List (Addr × Obj)} {σ : L2.St} {H : Hp} {s : Shared} {Q : VK} {us : List Value} {vs : List V} (sb : Sub X k A1) (F : FnM X.prog X.w X.K X.mg X.base k f fd ps m) (hb : Binds X.K fd ps []) (tk : Takes X Wx)
    (I : Inv X pins σ H s) (r : Vals vs us) (h : spM X.K X.mg ps.length m vs H Q (WE Wx σ)) : wpAny (model X.prog X.w) A1 (call (.ref f) us) (EP X pins σ Q) X.xe s :=
  call_at I (F.ok.run A1 X.stack s H ⟨us, []⟩ us vs Q (WE Wx σ) sb.room (Sub.env0 sb I) (binds0 (n := 0) hb I (r.length.symm.trans h.1)) r h) fun e s' q => passAt tk σ pins H s e s' I q
theorem back_of {pins : List (Addr × Obj)} {σ : L2.St} {Q : VK} {v : Value} {s' : Shared} (h : EP X pins σ Q v s') : PySem.W.CmpBack (EP X pins σ Q) v s' := by
  cases v <;> first | exact h | (obtain ⟨z, _, _, r, _⟩ := h; exact (relv_ni r).elim)
variable {tys : List CT}
theorem spM_then {K : PySem.W.Frag} {mg : Str → Option Value} {io : List Addr} {Fr : Addr → Prop} {s s' : S} {σ : L2.St} {H : Hp} {ws : List W} {vs : List V} {g : RV → Mo RV} (S0 : Sim K mg ea io Fr s σ H) (R : Rws K mg io (Ms io Fr s σ) H ws vs) (hn : vs.length = n) {r : Except Ex RV} (e : bnd (callG m ws) g s = some (r, s')) {Q : VK}
    (hok : ∀ x s1, g x s1 = some (r, s') → ∀ v H' io', PostE K mg ea io Fr s σ H s1 io' H' x v → Q v H') (hex : ∀ x, r = .error x → ∀ cls d H' io', PostX K mg ea io Fr s σ H s' σ io' H' x cls d → Wx cls d σ H') : spM K mg n m vs H Q (WE Wx σ) := by
  rcases bnd_some e with ⟨x, e1, rfl⟩ | ⟨x, s1, e1, e2⟩
  · exact spM_use S0 R hn e1 (fun _ q => by cases q) fun x' q cls d H' io' p => by
      cases q
      exact hex _ rfl cls d H' io' p
  · exact spM_use S0 R hn e1 (fun x' q v H' io' p => by cases q; exact hok _ _ e2 v H' io' p) (fun _ q => by cases q)
end
section
variable {X : Cx} {ea : EA} {Wx : WX} {m : Fn} {k n : Nat} {f C : Addr} {fd : FuncData} {ps : List Str} {nm : Str} {a b e : Expr} {ma mb : Mo RV} {ms : Mo (List RV)} {pos p : Pos} {g : RV → RV → Mo RV}
theorem pee_lenO (hC : X.mg nm = some (.ref C)) (F : FnM X.prog X.w X.K X.mg X.base k f fd ps m) (hp : ps.length = 1) (hr : Room (k + 1) X.A) (hb : Binds X.K fd ps []) (tk : Takes X Wx)
    (hs : PySem.W.findIn X.K (.ref C) "__len__" = some (some (.ref f))) (hf : PySem.W.isFn X.K (.ref f) = true) (hm : X.mg "len" = none) (ha : Pea X ea Wx [e] ms) (hg : Gl X "len" := by rfl) (hv : bootBuiltins "len" = some (.builtin "len") := by decide +kernel)
    (he : starEach [e] X.env = (false, eval e X.env) :: starEach [] X.env := by rfl) (hpl : (backTo pos (starEach [] X.env)).any (·.1) = false := by rfl) : Pee X ea Wx (.Call (.Name "len" p) [e] [] pos) (mLenO nm m ms) := by
  obtain ⟨t, q1, r1⟩ := ha.ex
  refine ⟨fun σ H Q => t σ H fun vs H1 => ∃ a dx fs, vs = [.ref a] ∧ H1 a = some (.ins C dx fs) ∧ spM X.K X.mg ps.length m vs H1 (fun v H' => ∃ i, v = .int i ∧ 0 ≤ i ∧ i < 2 ^ 63 ∧ Q (.int i) H') (WE Wx σ), ⟨fun pins s σ H Q I h => ?_⟩, ?_⟩
  · refine wpAny_Call_Name_kw (ld_blt I hg hm hv ?_ (by decide) (by decide))
    refine PyProof.Rows.callWith_builtin1 (thn (q1.run pos pins s σ H _ I h) fun us s1 ⟨vs, H1, I1, rv, q⟩ => ?_) he hpl
    obtain ⟨a, dx, fs, rfl, ha, q⟩ := q
    obtain rfl := Vals.ref1 rv
    obtain ⟨mA, J, _⟩ := ins_get I1.hok ha
    obtain ⟨od, J, _⟩ := J.look
    obtain ⟨m0, hF⟩ := I1.fr
    refine PySem.W.len_K hF I1.ok.mod.kin J hs hf (wpAny_mono (run_fnSub (Sub.in1 ⟨hr, rfl⟩) F hb tk I1 rv q) (fun v s' hh => ?_) fun _ _ x => x)
    obtain ⟨z, H', I', rz, i, rfl, h0, h1, qq⟩ := hh
    obtain ⟨t, rfl⟩ := rz
    exact ⟨⟨h0, h1⟩, .int i, H', I'.tok _, ⟨_, rfl⟩, qq⟩
  · intro σ H io Fr s S0 r0 s' e Q hok hex
    refine arg2 r1 S0 e hex fun xs vs s1 H1 io1 e2 px R1 => ?_
    rcases bnd_some e2 with ⟨x, e3, rfl⟩ | ⟨ws, s2, e3, e4⟩
    · obtain ⟨_, _, _, _, q, _⟩ := freezeAll_ok px.1 R1 e3
      cases q
    · obtain ⟨_, m2, S2, ws', q, r2⟩ := freezeAll_ok px.1 R1 e3
      cases q
      have T2 := px.2.less m2
      split at e4
      case isFalse => cases e4
      rename_i h1l
      rcases bnd_some e4 with ⟨z, e5, _⟩ | ⟨_, s3, e5, e6⟩
      · obtain ⟨_, q, _⟩ := chk1_ok S2 hC r2 e5
        cases q
      · obtain ⟨rfl, _, a, dx, fs, rest, hv, hH⟩ := chk1_ok S2 hC r2 e5
        subst hv
        have hr0 : rest = [] := by
          have := r2.1
          rw [h1l] at this
          simp at this
          exact this
        subst hr0
        refine ⟨a, dx, fs, rfl, hH, spM_then (n := ps.length) S2 r2 (by simp [hp]) e6 (fun z s1 e7 v H' io' px => ?_) fun x q cls d H' io' p => hex x q cls d H' io' ⟨p.1, T2.trans p.2.1, p.2.2⟩⟩
        unfold toLen at e7
        split at e7
        · rename_i i
          split at e7
          · rename_i hi
            cases e7
            obtain ⟨S7, T7, R7⟩ := px
            cases R7
            exact ⟨i, rfl, hi.1, hi.2, hok _ rfl _ _ _ ⟨S7, T2.trans T7, .int _⟩⟩
          · cases e7
        · cases e7
end
end Z
set_option linter.all false
set_option Elab.async false
set_option maxRecDepth 100000
set_option maxHeartbeats 1000000
namespace Z
open PySem PySem.Spec PyProof.Rows L2
structure Src where
  src : Addr
  len : Nat
  st : Addr → Nat → Heap → Prop
  fin : Addr → Option HO
  yl : Nat → V → Hp → Prop
  ok : Hp → Prop
def Src.at (S : Src) (it : Addr) (i : Nat) : HO := .ext (S.st it i)
def put (H : Hp) (a : Addr) (x : Option HO) : Hp := fun b => if b = a then x else H b
theorem put_ne {H : Hp} {a b : Addr} {x : Option HO} (h : b ≠ a) : put H a x b = H b := if_neg h
structure Steps (X : Cx) (A : Around) (it : Addr) (S : Src) : Prop where
  ty : ∀ {pins : List (Addr × Obj)} {σ : L2.St} {H : Hp} {s : Shared}, Inv X pins σ H s → H it = some (S.at it 0) → ∃ T i, s.TypeIs (.ref it) T ∧ Slot T "__next__" i
  more : ∀ {pins : List (Addr × Obj)} {σ : L2.St} {H : Hp} {s : Shared} {i : Nat} {Q : Option Value → Shared → Prop} {E : Value → Shared → Prop}, Inv X pins σ H s → H it = some (S.at it i) → S.ok H → i < S.len →
    (∀ v u s', S.yl i v H → RelV v u → Inv X pins σ (upd H it (S.at it (i + 1))) s' → Q (some u) s') → wpAny (model X.prog X.w) A (pyNext (.ref it)) Q E s
  last : ∀ {pins : List (Addr × Obj)} {σ : L2.St} {H : Hp} {s : Shared} {Q : Option Value → Shared → Prop} {E : Value → Shared → Prop}, Inv X pins σ H s → H it = some (S.at it S.len) → S.ok H →
    (∀ s', Inv X pins σ (put H it (S.fin it)) s' → Q none s') → wpAny (model X.prog X.w) A (pyNext (.ref it)) Q E s
def Src.all (S : Src) (ys : List V) (H : Hp) : Prop := ∀ j v, ys[j]? = some v → S.yl j v H
structure Mild (S : Src) : Prop where
  ok : ∀ {H H' : Hp}, S.ok H → H' S.src = H S.src → S.ok H'
  yl : ∀ {H H' : Hp} {i : Nat} {v : V}, S.yl i v H → (∀ b xs, H b = some (.tup xs) → H' b = some (.tup xs)) → S.yl i v H'
def srcL (K : PySem.W.Frag) (l : Addr) (zs : List V) : Src where
  src := l
  len := zs.length
  st := fun it i h => h.get? it = some (GNX.itObj l i)
  fin := fun it => some (ItE it zs.length)
  yl := fun i v _ => zs[i]? = some v
  ok := fun H => SqL K H l zs
section
variable {X : Cx} {pins : List (Addr × Obj)} {σ : L2.St} {H : Hp} {s : Shared} {it l q : Addr} {zs : List V} {A A1 : Around} {E : Value → Shared → Prop}
theorem stepsL (hh : A.handled = none) : Steps X A it (srcL X.K l zs) where
  ty := fun I e => ⟨"list_iterator", _, ⟨_, itO_get I e, rfl⟩, slot_listiter_next⟩
  more := by
    intro pins σ H s i Q E I e sq lt k
    obtain ⟨its, rv, pl, _⟩ := I.list (show SqL X.K H l zs from sq)
    obtain ⟨u, hu, ru⟩ := rv.get (List.getElem?_eq_getElem lt)
    have at_ := itO_get I e
    have typ : s.heap.IsListIter it l i := ⟨_, at_, rfl, rfl⟩
    unfold pyNext
    apply wpAny_bind (wpAny_attempt _)
    apply wpAny_callSpecial?_slot (name := Str.ofString "__next__") typ.typeIs slot_listiter_next
    apply wpAny_call_entry slot_listiter_next typ.typeIs entry_listiter_next _ (args_listiter_next _)
    apply wpAny_mono (GNX.next_item (Q := fun u s' => RelV zs[i] u ∧ Inv X pins σ (upd H it (ItO l it (i + 1))) s') at_ pl.isList (by simpa using hu) _) _ fun _ _ z => z
    · exact fun _ e2 sb => ⟨ru, I.write (t' := s.toks) (by rw [e]; exact True.intro) (.inl rfl) (fun b _ nb z => (sb.2 b nb).trans z) ⟨_, e2⟩ (itO_ok e2)⟩
    · rintro _ s2 ⟨u2, rfl, k1, k2⟩
      exact ⟨u2, rfl, wpAny_pure (k _ _ _ (List.getElem?_eq_getElem lt) k1 k2)⟩
  last := by
    intro pins σ H s Q E I e sq k
    obtain ⟨its, rv, pl, _⟩ := I.list (show SqL X.K H l zs from sq)
    have at_ := itO_get I e
    have typ : s.heap.IsListIter it l zs.length := ⟨_, at_, rfl, rfl⟩
    unfold pyNext
    apply wpAny_bind (wpAny_attempt _)
    apply wpAny_callSpecial?_slot (name := Str.ofString "__next__") typ.typeIs slot_listiter_next
    apply wpAny_call_entry slot_listiter_next typ.typeIs entry_listiter_next _ (args_listiter_next _)
    apply wpAny_mono (GNX.next_end (A := A) (Q := fun _ _ => False) hh at_ pl.isList (by rw [List.getElem?_toArray]; exact rv.none_of (List.getElem?_eq_none (Nat.le_refl _))) _) _ fun _ _ z => z
    · rintro h1 h2 x vs e1 sb keep _ hx _
      refine wpAny_bind (wpAny_isInstance (T := "StopIteration") (b := true) (by exact ⟨_, hx, rfl⟩) isSubtype_stop ?_)
      have J : Inv X pins σ (put H it ((srcL X.K l zs).fin it)) { s with heap := h1 } := I.write (e := it) (t' := s.toks) (by rw [e]; exact True.intro) (.inl rfl) (fun b _ nb z => (sb.2 b nb).trans z) ⟨_, e1⟩ (itE_ok e1)
      exact wpAny_pure (k _ (J.kept (t' := s.toks) keep))
    · rintro _ _ ⟨_, _, z⟩
      exact z.elim
theorem mildL {K : PySem.W.Frag} : Mild (srcL K l zs) where
  ok := fun {H H'} h e => by
    have e : H' l = H l := e
    show SqL K H' l zs
    unfold SqL Rd at *
    rw [e]
    exact h
  yl := fun h _ => h
theorem turn_of {P : Program} {w : World} {Rs : Result → Shared → Prop}
    (h : wpAny (model P w) A1.in1 (pyNext (.ref it)) (fun r s' => match r with
      | none => Rs (.ok (.ret .none)) s'
      | some u => wpAny (model P w) A1.in1 (updateSeq q (·.push u)) (fun _ s2 => codeAny (model P w) A1 (.builtin "list.extend.loop" ⟨[.ref q, .ref it, .none], []⟩) Rs s2) (fun e s2 => Rs (.error e) s2) s') (fun e s2 => Rs (.error e) s2) s) :
    codeAny (model P w) A1 (.builtin "list.extend.loop" ⟨[.ref q, .ref it, .none], []⟩) Rs s := by
  apply codeAny_builtin PySem.F.entry_extend_loop
  rw [Around.under_plainId PySem.F.plain_extend_loop ⟨[.ref q, .ref it, .none], []⟩]
  apply wpAny_bind (m := pyNext (.ref it))
  apply wpAny_mono h _ fun _ _ z => z
  rintro (_ | u) s' k
  · exact wpAny_pure k
  · exact wpAny_bind (m := updateSeq q (·.push u)) (wpAny_mono k (fun _ s2 z => wpAny_pure ⟨plainId_quiet PySem.F.plain_extend_loop _, z⟩) fun _ _ z => z)
def sofar (S : Src) (H0 : Hp) (it q : Addr) (i : Nat) (ys : List V) : Hp := upd (upd H0 it (S.at it i)) q (.lst ys)
theorem sofar_it {S : Src} {H0 : Hp} {i : Nat} {ys : List V} (ne : q ≠ it) : sofar S H0 it q i ys it = some (S.at it i) := by
  unfold sofar
  rw [upd_ne ne.symm, upd_same]
theorem sofar_other {S : Src} {H0 : Hp} {i : Nat} {ys : List V} {b : Addr} (h1 : b ≠ it) (h2 : b ≠ q) : sofar S H0 it q i ys b = H0 b := by
  unfold sofar
  rw [upd_ne h2, upd_ne h1]
theorem fill {S : Src} {H0 : Hp} {Rs : Result → Shared → Prop} (Y : Steps X A1.in1 it S) (ne : q ≠ it) (small : S.len ≤ sz) (okF : ∀ i ys, S.ok (sofar S H0 it q i ys)) (ylF : ∀ i ys j v, S.yl j v (sofar S H0 it q i ys) → S.yl j v H0)
    (done : ∀ s ys, ys.length = S.len → S.all ys H0 → Inv X pins σ (upd (put H0 it (S.fin it)) q (.lst ys)) s → Rs (.ok (.ret .none)) s) :
    ∀ (left i : Nat) (ys : List V) (s : Shared), i + left = S.len → ys.length = i → S.all ys H0 → Inv X pins σ (sofar S H0 it q i ys) s → codeAny (model X.prog X.w) A1 (.builtin "list.extend.loop" ⟨[.ref q, .ref it, .none], []⟩) Rs s := by
  intro left
  induction left with
  | zero =>
    intro i ys s e1 e2 al I
    have e1 : i = S.len := e1
    subst e1
    refine turn_of (Y.last I (sofar_it ne) (okF _ _) fun s' J => ?_)
    have same : put (sofar S H0 it q S.len ys) it (S.fin it) = upd (put H0 it (S.fin it)) q (.lst ys) := by
      funext b
      by_cases b1 : b = it
      · subst b1
        rw [upd_ne ne.symm]
        exact (if_pos rfl).trans (if_pos rfl).symm
      · rw [put_ne b1]
        by_cases b2 : b = q
        · subst b2
          unfold sofar
          rw [upd_same, upd_same]
        · rw [sofar_other b1 b2, upd_ne b2, put_ne b1]
    rw [same] at J
    exact done _ ys e2 al J
  | succ left ih =>
    intro i ys s e1 e2 al I
    refine turn_of (Y.more I (sofar_it ne) (okF _ _) (by omega) fun v u s' y r J => ?_)
    have here : upd (sofar S H0 it q i ys) it (S.at it (i + 1)) q = some (.lst ys) := by
      rw [upd_ne ne]
      exact upd_same
    obtain ⟨_, its, cap, r2, long, e⟩ := J.lstM here
    have room : its.length < sizeLine := by
      rw [sizeLine_eq]
      have : S.len ≤ 16777216 := small
      omega
    refine wpAny_updateSeq e rfl ?_ (by rw [List.size_toArray]; omega) (by show (its.toArray.push u).size ≤ _; rw [Array.size_push, List.size_toArray]; omega)
    refine ih (i + 1) (ys ++ [v]) _ (by omega) (by simp [e2]) (fun j x hj => ?_) ?_
    · by_cases jl : j < ys.length
      · rw [List.getElem?_append_left jl] at hj
        exact al j x hj
      · have je : j = i := by
          have := get_lt hj
          simp only [List.length_append, List.length_singleton] at this
          omega
        subst je
        rw [List.getElem?_append_right (by omega), e2, Nat.sub_self] at hj
        cases hj
        exact ylF _ _ _ _ y
    · have K := J.lset (f := (·.push u)) (its' := its ++ [u]) (t' := s'.toks) here e (by simp) (r2.append (.cons r .nil)) (by simp only [List.length_append, List.length_singleton]; omega)
      have same : upd (upd (sofar S H0 it q i ys) it (S.at it (i + 1))) q (.lst (ys ++ [v])) = sofar S H0 it q (i + 1) (ys ++ [v]) := by
        funext b
        by_cases b2 : b = q
        · subst b2
          rw [upd_same]
          exact upd_same.symm
        · by_cases b1 : b = it
          · subst b1
            rw [upd_ne b2, upd_same, sofar_it ne]
          · rw [upd_ne b2, upd_ne b1, sofar_other b1 b2, sofar_other b1 b2]
      rwa [same] at K
end
def spIt (C : Addr) (fl : Str) (mk : V → Src → Prop) : Sp := fun vs H Q _ => ∃ a dx fs u S, vs = [.ref a] ∧ H a = some (.ins C dx fs) ∧ fs.lookup fl = some u ∧ mk u S ∧ S.ok H ∧ ∀ it, H it = none → Q (.ref it) (upd H it (S.at it 0))
structure IterC (K : PySem.W.Frag) (C fi fl : Addr) : Prop where
  it : PySem.W.findIn K (.ref C) "__iter__" = some (some (.ref fi))
  itF : PySem.W.isFn K (.ref fi) = true
  ln : PySem.W.findIn K (.ref C) "__len__" = some (some (.ref fl))
  lnF : PySem.W.isFn K (.ref fl) = true
def askLen (K : PySem.W.Frag) (mg : Str → Option Value) (m : Fn) (S : Src) (a q it : Addr) (H : Hp) (Q : VK) : Prop :=
  spM K mg 1 m [.ref a] (upd H it (S.at it 0)) (fun v H2 => ∃ n : Int, v = .int n ∧ 0 ≤ n ∧ n ≤ sz ∧ H2 q = some (.lst []) ∧ H2 it = some (S.at it 0) ∧ S.ok H2 ∧ S.len ≤ sz ∧
    ∀ ys, ys.length = S.len → S.all ys H2 → Q (.ref q) (upd (put H2 it (S.fin it)) q (.lst ys))) E0
def rListO (K : PySem.W.Frag) (mg : Str → Option Value) (C : Addr) (fl : Str) (mk : V → Src → Prop) (m : Fn) : List V → Hp → VK → Prop := fun xs H Q => ∃ a dx fs u S, xs = [.ref a] ∧ H a = some (.ins C dx fs) ∧ fs.lookup fl = some u ∧ mk u S ∧ S.ok H ∧
  ∀ q it, H q = none → H it = none → q ≠ it → askLen K mg m S a q it (upd H q (.lst [])) Q
theorem hintO {M : Model} {A : Around} {E : Value → Shared → Prop} {Q : Bool → Shared → Prop} {K : PySem.W.Frag} {ox : Obj} {od : Option Obj} {a C fl : Addr} {s : Shared} (hl : PySem.W.findIn K (.ref C) "__len__" = some (some (.ref fl))) (hK : K.In s.heap) (J : PySem.W.InstAt s.heap a ox C od)
    (h : wpAny M A (call (.builtin "len") [.ref a]) (fun v s' => ∃ n t, v = .int n t ∧ 0 ≤ n ∧ n ≤ sz ∧ Q (n != 0) s') (fun _ _ => False) s) : wpAny M A (Builtin.List.listLengthHint (.ref a)) Q E s := by
  have few : ∀ n : Int, n ≤ sz → Builtin.List.listTooLong n.toNat = false := fun n hi => notLongL (by rw [sizeLine_eq]; have : n ≤ (16777216 : Nat) := hi; omega)
  unfold Builtin.List.listLengthHint
  refine wpAny_bind (wpAny_bind (J.type.here ((PySem.W.looks_findIn hK hl).here (PySem.W.KFB.if_not rfl (wpAny_ite_split (fun _ => wpAny_bind (wpAny_rule (wpAny_bind (wpAny_attempt (wpAny_mono h ?_ fun _ _ z => z.elim))))) fun no => absurd rfl no)))))
  rintro _ s' ⟨n, t, rfl, lo, hi, q⟩
  exact wpAny_bind (m := asInt? (.int n t)) (wpAny_pure (PySem.W.KFB.if_not (few n hi) (wpAny_pure q)))
section
variable {X : Cx} {ea : EA} {Wx : WX} {m : Fn} {k n : Nat} {f C : Addr} {fd : FuncData} {ps : List Str} {nm : Str} {A A1 : Around} {pins : List (Addr × Obj)} {σ : L2.St} {H : Hp} {s : Shared}
theorem call_un {Q : VK} {us : List Value} {vs : List V} {sp : Sp} {kk : Nat} (sb : Sub X kk A1) (F : FnOk X.prog X.w X.K X.mg X.base (L2.CX X.prog X.w) kk f fd ps sp) (hb : Binds X.K fd ps []) (I : Inv X pins σ H s) (r : Vals vs us) (h : sp vs H Q E0) :
    wpAny (model X.prog X.w) A1 (call (.ref f) us) (fun u s' => ∃ v H', Inv X pins σ H' s' ∧ RelV v u ∧ Q v H' ∧ Un (frs X.stack) [] H H' s.heap s'.heap) (fun _ _ => False) s := by
  have all := F.run A1 X.stack s H ⟨us, []⟩ us vs Q E0 sb.room (Sub.env0 sb I) (binds0 (n := 0) hb I (by rw [← r.length]; exact F.len _ _ _ _ h)) r h
  refine wpAny_call (codeAny_mono all ?_)
  rintro (er | (_ | _ | _ | u)) s' q
  · obtain ⟨_, _, _, _, _, _, _, _, _, _, _, _, z⟩ := q
    exact z
  · exact q.elim
  · exact q.elim
  · exact q.elim
  · obtain ⟨v, H', J, rv, z⟩ := I.after (Q := fun v H' => Q v H' ∧ Un (frs X.stack) [] H H' s.heap s'.heap) (by
      obtain ⟨v, H', e1, e2, un, e4, rv, z⟩ := q
      exact ⟨v, H', e1, e2, un, e4, rv, z, un⟩)
    exact ⟨v, H', J, rv, z.1, z.2⟩
variable {fi flA : Addr} {fdI fdL : FuncData} {psI psL : List Str} {fl : Str} {mk : V → Src → Prop} {a q : Addr} {dx : Addr} {fs : List (Str × V)} {u : V} {S : Src} {Q : VK} {Rs : Result → Shared → Prop}
structure IterP (X : Cx) (C : Addr) (fl : Str) (mk : V → Src → Prop) (n : Nat) (m : Fn) (fi flA : Addr) (fdI fdL : FuncData) (psI psL : List Str) : Prop where
  cls : IterC X.K C fi flA
  FI : FnOk X.prog X.w X.K X.mg X.base (L2.CX X.prog X.w) n fi fdI psI (spIt C fl mk)
  bI : Binds X.K fdI psI []
  FL : FnM X.prog X.w X.K X.mg X.base n flA fdL psL m
  one : psL.length = 1
  bL : Binds X.K fdL psL []
def Good (X : Cx) (A : Around) (mk : V → Src → Prop) : Prop := ∀ u S, mk u S → Mild S ∧ ∀ {pins : List (Addr × Obj)} {σ : L2.St} {H : Hp} {s : Shared}, Inv X pins σ H s → S.ok H → (∃ o, s.heap.get? S.src = some o) ∧ ∀ it, s.heap.get? it = none → Steps X A it S
theorem touch {M : Model} {E : Value → Shared → Prop} {P : PySem.Fin → Shared → Prop} {c : Sem PySem.Fin} {nm : String} (I : Inv X pins σ H s) (hq : H q = some (.lst [])) (k : ∀ s', Inv X pins σ H s' → wpAny M A c P E s') :
    wpAny M A (do rule nm; Builtin.List.listTouch (.ref q); c) P E s := by
  obtain ⟨_, its, cap, r, _, e⟩ := I.lstM hq
  cases r
  have J := I.lset (f := (·.push Value.none)) (its' := [Value.none]) (ys := [.non]) (t' := s.toks) hq e (by simp) (.cons rfl .nil) (by rw [List.length_singleton, sizeLine_eq]; decide)
  obtain ⟨_, its2, cap2, r2, _, e2⟩ := J.lstM upd_same
  obtain ⟨u2, rfl, _⟩ := r2.one
  have J2 := J.lset (f := (·.pop)) (its := [u2]) (its' := []) (ys := []) (t' := s.toks) upd_same e2 (by rfl) .nil (Nat.zero_le _)
  have same : upd (upd H q (.lst [.non])) q (.lst []) = H := by
    rw [upd_upd]
    funext b
    by_cases hb : b = q
    · rw [hb, upd_same, hq]
    · exact upd_ne hb
  rw [same] at J2
  refine wpAny_bind (wpAny_rule (wpAny_bind ?_))
  show wpAny M A (updateSeq q (·.push .none) >>= fun _ => updateSeq q (·.pop)) _ _ _
  exact wpAny_bind (wpAny_updateSeq e rfl (wpAny_updateSeq e2 rfl (k _ J2) (Nat.le_trans (by decide : 1 ≤ 1) (by rw [sizeLine_eq]; decide)) (Nat.zero_le _)))
theorem extendO (hh : A1.handled = none) (sb : Sub X (n + 1) A1.in1) (p : IterP X C fl mk n m fi flA fdI fdL psI psL) (good : Good X A1.in1 mk) (hmk : mk u S) (I : Inv X pins σ H s) (ha : H a = some (.ins C dx fs)) (hfl : fs.lookup fl = some u) (hq : H q = some (.lst [])) (ok : S.ok H) (nq : S.src ≠ q)
    (hs : ∀ it, H it = none → askLen X.K X.mg m S a q it H Q) (done : ∀ s' H', Inv X pins σ H' s' → Q (.ref q) H' → Rs (.ok (.ret .none)) s') :
    wpAny (model X.prog X.w) A1.in1 (Builtin.List.listExtendWith (.ref q) (.ref a) .none) (fun fin s' => match fin with
      | .done f => Rs (.ok f) s'
      | .again c => c.quiet = true ∧ codeAny (model X.prog X.w) A1 c Rs s') (fun e s' => Rs (.error e) s') s := by
  obtain ⟨mild, gd⟩ := good u S hmk
  have qa : q ≠ a := fun z => by rw [z, ha] at hq; cases hq
  have other : (Builtin.List.listSameRef (.ref q) (.ref a) || Value.ref C == Value.type "list" || Value.ref C == Value.type "tuple") = false := by
    rw [show Builtin.List.listSameRef (.ref q) (.ref a) = false from by simp [Builtin.List.listSameRef, qa]]
    rfl
  have self : Vals [V.ref a] [Value.ref a] := .cons rfl .nil
  obtain ⟨_, _, J⟩ := inst_of I ha
  obtain ⟨_, fr⟩ := I.fr
  unfold Builtin.List.listExtendWith
  refine wpAny_bind (J.type.here ?_)
  rw [if_neg (by rw [other]; exact Bool.false_ne_true)]
  refine wpAny_bind (PySem.W.owit_iter fr I.ok.mod.kin J p.cls.it p.cls.itF (wpAny_mono (call_un (Q := fun v H' => ∃ it, v = .ref it ∧ H it = none ∧ H' = upd H it (S.at it 0)) (sb.mono (Nat.le_succ n)) p.FI p.bI I self ⟨a, dx, fs, u, S, rfl, ha, hfl, hmk, ok, fun it z => ⟨it, rfl, z, rfl⟩⟩) ?_ fun _ _ z => z.elim))
  rintro _ s1 ⟨_, _, I1, r1, ⟨it, rfl, hit, rfl⟩, un⟩
  cases r1
  have new : s.heap.get? it = none := by
    cases e : s.heap.get? it with
    | none => rfl
    | some o =>
      have := un.free it o e hit (fun z => nomatch z)
      rw [upd_same] at this
      cases this
  obtain ⟨⟨oS, alive⟩, st⟩ := gd I ok
  have Y := st it new
  have ns : S.src ≠ it := fun z => by rw [z, new] at alive; cases alive
  have ni : q ≠ it := fun z => by rw [z, hit] at hq; cases hq
  have na : a ≠ it := fun z => by rw [z, hit] at ha; cases ha
  obtain ⟨T, im, ty, slot⟩ := Y.ty I1 upd_same
  unfold PySem.W.OwitIt
  refine wpAny_specialOf (name := Str.ofString "__next__") ty slot.lookup ?_
  have ha1 : upd H it (S.at it 0) a = some (.ins C dx fs) := by rw [upd_ne na]; exact ha
  obtain ⟨_, _, J1⟩ := inst_of I1 ha1
  obtain ⟨_, fr1⟩ := I1.fr
  have owed := hs it hit
  unfold askLen at owed
  rw [← p.one] at owed
  dsimp only
  refine wpAny_bind (wpAny_holding (hintO p.cls.ln I1.kIn J1 (PySem.W.len_K fr1 I1.ok.mod.kin J1 p.cls.ln p.cls.lnF (wpAny_mono (call_un (Sub.in1 sb) p.FL.ok p.bL I1 self owed) ?_ fun _ _ z => z))))
  rintro _ s2 ⟨_, H2, I2, r2, ⟨i, rfl, lo, hi, hq2, hi2, ok2, few, q2⟩, _⟩
  obtain ⟨t, rfl⟩ := r2
  have below : (i : Int) < 2 ^ 63 := by have : i ≤ (16777216 : Nat) := hi; omega
  refine ⟨⟨lo, below⟩, i, _, rfl, lo, hi, ?_⟩
  have run : ∀ s3, Inv X pins σ H2 s3 → codeAny (model X.prog X.w) A1 (.builtin "list.extend.loop" ⟨[.ref q, .ref it, .none], []⟩) Rs s3 := fun s3 I3 => by
    refine fill (S := S) (H0 := H2) Y ni few (fun i ys => mild.ok ok2 (sofar_other ns nq)) (fun i ys j v y => mild.yl y fun b xs e => ?_) (fun s4 ys e al I4 => done s4 _ I4 (q2 ys e al)) S.len 0 [] s3 (Nat.zero_add _) rfl (fun j v e => by simp at e) ?_
    · by_cases b1 : b = it
      · rw [b1, sofar_it ni] at e; cases e
      · by_cases b2 : b = q
        · subst b2
          unfold sofar at e
          rw [upd_same] at e; cases e
        · rwa [sofar_other b1 b2] at e
    · have same : sofar S H2 it q 0 [] = H2 := by
        funext b
        by_cases b2 : b = q
        · subst b2
          exact upd_same.trans hq2.symm
        · by_cases b1 : b = it
          · rw [b1, sofar_it ni, hi2]
          · exact sofar_other b1 b2
      rwa [same]
  have go : ∀ s3, Inv X pins σ H2 s3 → wpAny (model X.prog X.w) A1.in1 (again (.builtin "list.extend.loop" ⟨[.ref q, .ref it, .none], []⟩)) (fun fin s' => match fin with
      | .done f => Rs (.ok f) s'
      | .again c => c.quiet = true ∧ codeAny (model X.prog X.w) A1 c Rs s') (fun e s' => Rs (.error e) s') s3 := fun s3 I3 => wpAny_pure ⟨plainId_quiet PySem.F.plain_extend_loop _, run s3 I3⟩
  have I2' := I2.tok (s2.toks + 1)
  exact wpAny_ite_split (fun _ => touch I2' hq2 go) fun _ => go _ I2'
theorem call_listO (p : IterP X C fl mk n m fi flA fdI fdL psI psL) (good : Good X X.A.in1.in1 mk) (hr : Room (n + 3) X.A) : CallR X (.type "list") (rListO X.K X.mg C fl mk m) := by
  rintro pins s σ H xs us Q I rv ⟨a, dx, fs, u, S, rfl, ha, hfl, hmk, ok, hs⟩
  obtain ⟨_, rfl, ru⟩ := rv.one
  cases ru
  generalize hn : s.heap.objs.size = q at *
  have free : H q = none := I.hok.fresh (Nat.le_of_eq hn)
  obtain ⟨mild, gd⟩ := good u S hmk
  have nq : S.src ≠ q := fun z => by
    obtain ⟨o, e⟩ := (gd I ok).1
    rw [z] at e
    have lt := Heap.lt_size e
    rw [hn] at lt
    exact Nat.lt_irrefl _ lt
  let s1 : Shared := { s with heap := s.heap.push { cls := .type "list", data := .seq #[] } }
  have laid : s1.heap.get? q = some { cls := .type "list", data := .seq #[] } := by rw [← hn]; exact Heap.get?_push_size _ rfl
  have I1 : Inv X pins σ (upd H q (.lst [])) s1 := by rw [← hn]; exact I.lnew (its := []) (t' := s.toks) .nil (Nat.zero_le _)
  have I2 := I1.lset (f := fun _ => #[]) (its := []) (its' := []) (ys := []) (t' := s.toks) upd_same laid rfl .nil (Nat.zero_le _)
  rw [upd_upd] at I2
  refine callType_codes (Q₁ := fun obj s2 => obj = .ref q ∧ s2 = s1) PySem.F.called_list (PySem.F.typeCall_list_1 _) PySem.F.entry_list_init (code_list_new _ ⟨by rw [← hn], rfl⟩) ?_
  rintro _ _ ⟨rfl, rfl⟩
  refine ⟨⟨_, laid, rfl⟩, PySem.F.args_list_init_2 _ _, ?_⟩
  show wpAny _ _ (Builtin.List.listItems (.ref q) >>= fun old => updateSeq q (fun _ => #[]) >>= fun _ => letGo old.toList.reverse >>= fun _ => Builtin.List.listExtendWith (.ref q) (.ref a) .none) _ _ _
  have items : ∀ {P : Array Value → Shared → Prop} {E : Value → Shared → Prop}, P #[] s1 → wpAny (model X.prog X.w) X.A.in1.in1 (Builtin.List.listItems (.ref q)) P E s1 := fun h => by
    unfold Builtin.List.listItems
    exact wpAny_bind (wpAny_seqItems laid rfl (wpAny_pure h))
  refine wpAny_bind (items (wpAny_bind (wpAny_updateSeq laid rfl (f := fun _ => #[]) (wpAny_bind (wpAny_letGo ?_)) (Nat.zero_le _) (Nat.zero_le _))))
  exact extendO (A1 := X.A.in1) (Rs := wants (fun r s₂ => r = .none ∧ EP X pins σ Q (.ref q) s₂) X.xe) (by exact hr.hd) (Sub.in1 (Sub.in1 (⟨hr, rfl⟩ : Sub X (n + 3) X.A))) p good hmk I2 (by rw [upd_ne (ne_of_none ha free)]; exact ha) hfl upd_same (mild.ok ok (upd_ne nq)) nq
    (fun it z => hs q it free (by
      by_cases e : it = q
      · rw [e, upd_same] at z; cases z
      · rwa [upd_ne e] at z) fun e => by rw [← e, upd_same] at z; cases z)
    fun s' H' I' z => ⟨rfl, .ref q, H', I', rfl, z⟩
theorem goodL : X.A.handled = none → Good X X.A.in1.in1 fun u S => ∃ l zs, u = .ref l ∧ S = srcL X.K l zs := by
  rintro hh _ _ ⟨l, zs, rfl, rfl⟩
  refine ⟨mildL, fun {pins σ H s} I ok => ⟨?_, fun it _ => stepsL hh⟩⟩
  obtain ⟨its, _, ⟨o, _, e, _⟩, _⟩ := I.list (show SqL X.K H l zs from ok)
  exact ⟨o, e⟩
end
end Z
set_option Elab.async false
set_option linter.all false
set_option maxRecDepth 100000
namespace Z
open PySem PySem.Spec PyProof.Rows L2
section
variable {K : PySem.W.Frag} {mg : Str → Option Value} {ea : EA} {io io' : List Addr} {Fr Fr' Fr2 : Addr → Prop} {s s' s2 : S} {σ σ' : L2.St} {H H' : Hp} {w : W} {v : V} {c c' : Cell} {o o' : HO} {a p C : Addr} {ws : List W} {vs : List V} {M M' : Addr → Prop} {Wx : WX}
theorem Sim.change (x : Sim K mg ea io Fr' s σ H) (sub : ∀ b, Fr2 b → Fr' b) (keep : ∀ b o, H b = some o → ¬ Ms io Fr' s σ b → H' b = some o)
    (same : ∀ b, (b ∈ io ∨ ∃ (i : Nat) (c : Cell), s.r[i]? = some (.own c) ∧ σ[i]? = some (some (V.ref b))) → H' b = H b) (tr : ∀ b, Fr2 b → ∃ o, H' b = some o ∧ Nt o) : Sim K mg ea io Fr2 s σ H' := by
  have q : Pers io (Ms io Fr' s σ) H io (Ms io Fr2 s σ) H' := ⟨keep, fun b z => .inl (Ms.mono sub b z), fun _ _ e => e⟩
  refine ⟨x.len, ⟨x.g.len, fun n b c h1 h2 => ?_, x.g.nd, fun b hb z => x.g.dj b hb (FrO.mono sub b z), fun b z => ?_⟩, fun i u e => ?_, fun i d e => ?_, x.dist, fun i y e => ?_⟩
  · obtain ⟨o, h3, h4⟩ := x.g.cell n b c h1 h2
    exact ⟨o, by rw [same b (.inl (List.mem_of_getElem? h1))]; exact h3, h4.pers q⟩
  · rcases z with z | ⟨i, d, h1, h2⟩
    · exact tr b z
    · obtain ⟨b', o, k1, k2, k3, _⟩ := x.own i d h1
      rw [h2] at k1; cases k1
      exact ⟨o, by rw [same b (.inr ⟨i, d, h1, h2⟩)]; exact k2, k3.nt⟩
  · obtain ⟨v, h1, h2⟩ := x.val i u e
    exact ⟨v, h1, h2.pers q⟩
  · obtain ⟨b, o, h1, h2, h3, h4⟩ := x.own i d e
    exact ⟨b, o, h1, by rw [same b (.inr ⟨i, d, e, h1⟩)]; exact h2, h3.pers q, fun z => h4 (sub b z)⟩
  · obtain ⟨h1, h2⟩ := x.exc i y e
    exact ⟨h1, h2.pers q⟩
def fldS (nm fl : Str) (rd : W → Option (List W)) : W → Option (List W)
  | .obj nm' fs => if nm' = nm then (fs.lookup fl).bind rd else none
  | _ => none
def rdL : W → Option (List W)
  | .lst zs => if zs.length ≤ sz then some zs else none
  | .frl zs => if zs.length ≤ sz then some zs else none
  | _ => none
def listO (nm fl : Str) (rd : W → Option (List W)) (m : Fn) : List W → Mo RV
  | [w] => fun s => match (derefW s w).bind (fldS nm fl rd) with
    | some zs => (match callG m [w] s with
      | some (.ok (.val (.int n)), s') => if 0 ≤ n ∧ n ≤ sz then some (.ok (.own (.lst zs)), s') else none
      | _ => none)
    | none => none
  | _ => stk
def mListS (nm fl : Str) (rd : W → Option (List W)) (m : Fn) (ms : Mo (List RV)) : Mo RV := bnd ms fun xs => bnd (freezeAll xs) fun ws => listO nm fl rd m ws
def mListO (nm fl : Str) (m : Fn) (ms : Mo (List RV)) : Mo RV := mListS nm fl rdL m ms
def RdOk (K : PySem.W.Frag) (mg : Str → Option Value) (mk : V → Src → Prop) (rd : W → Option (List W)) : Prop := ∀ {io : List Addr} {M : Addr → Prop} {H : Hp} {w : W} {v : V} {zs : List W}, Rw K mg io M H w v → rd w = some zs →
  ∃ S, mk v S ∧ S.ok H ∧ S.len = zs.length ∧ zs.length ≤ sz ∧ ∀ {io' : List Addr} {M' : Addr → Prop} {H' : Hp}, Pers io M H io' M' H' → (∀ b, M' b → ∃ o, H' b = some o ∧ Nt o) → S.ok H' ∧ ∀ ys, ys.length = S.len → S.all ys H' → Rws K mg io' M' H' zs ys
theorem rdL_ok : RdOk K mg (fun u S => ∃ l zs, u = .ref l ∧ S = srcL K l zs) rdL := by
  intro io M H w v zs R e
  have two : ∀ {l : Addr} {vs : List V}, v = .ref l → zs.length ≤ sz → SqL K H l vs → Rws K mg io M H zs vs → (∀ {io' : List Addr} {M' : Addr → Prop} {H' : Hp}, Pers io M H io' M' H' → SqL K H' l vs) → ∃ S, (∃ l zs, v = .ref l ∧ S = srcL K l zs) ∧ S.ok H ∧ S.len = zs.length ∧ zs.length ≤ sz ∧
      ∀ {io' : List Addr} {M' : Addr → Prop} {H' : Hp}, Pers io M H io' M' H' → (∀ b, M' b → ∃ o, H' b = some o ∧ Nt o) → S.ok H' ∧ ∀ ys, ys.length = S.len → S.all ys H' → Rws K mg io' M' H' zs ys := by
    rintro l vs rfl few sq rw stay
    refine ⟨srcL K l vs, ⟨l, vs, rfl, rfl⟩, sq, rw.1.symm, few, fun p _ => ⟨stay p, fun ys e al => ?_⟩⟩
    have same : ys = vs := List.ext_getElem? fun j => by
      by_cases jl : j < ys.length
      · rw [List.getElem?_eq_getElem jl]
        exact (al j _ (List.getElem?_eq_getElem jl)).symm
      · rw [List.getElem?_eq_none (by omega), List.getElem?_eq_none (by have : ys.length = vs.length := e; omega)]
    rw [same]
    exact rw.pers p
  unfold rdL at e
  split at e
  · split at e
    · rename_i few
      cases e
      cases R with
      | lst h n l q => exact two rfl few (.inl (.inl h)) ⟨l, q⟩ fun p => .inl (.inl (p.keep _ _ h n))
    · cases e
  · split at e
    · rename_i few
      cases e
      cases R with
      | frl h l q =>
        rcases h with ⟨h, n⟩ | h
        · exact two rfl few (.inl h) ⟨l, q⟩ fun p => .inl (p.rd h n)
        · exact two rfl few (.inr h) ⟨l, q⟩ fun p => .inr h
    · cases e
  · cases e
theorem fldS_ok {nm fl : Str} {mk : V → Src → Prop} {rd : W → Option (List W)} {zs : List W} (hC : mg nm = some (.ref C)) (ok : RdOk K mg mk rd) (R : Rn K mg io M H w v) (e : fldS nm fl rd w = some zs) : ∃ a dx fs u S, v = .ref a ∧ H a = some (.ins C dx fs) ∧ fs.lookup fl = some u ∧ mk u S ∧ S.ok H ∧ S.len = zs.length ∧ zs.length ≤ sz ∧
    ∀ {io' : List Addr} {M' : Addr → Prop} {H' : Hp}, Pers io M H io' M' H' → (∀ b, M' b → ∃ o, H' b = some o ∧ Nt o) → S.ok H' ∧ ∀ ys, ys.length = S.len → S.all ys H' → Rws K mg io' M' H' zs ys := by
  unfold fldS at e
  split at e
  · rename_i nm' fs
    split at e
    · rename_i hn
      subst hn
      obtain ⟨a, C', dx, us, rfl, hm, hH, rk⟩ := R.obj
      rw [hC] at hm
      cases hm
      obtain ⟨x, hlk, hx⟩ := Option.bind_eq_some_iff.mp e
      obtain ⟨u, h1, h2⟩ := Rkv.lookup (vs := us) rk hlk
      obtain ⟨S, g⟩ := ok h2 hx
      exact ⟨a, dx, us, u, S, rfl, hH, h1, g⟩
    · cases e
  · cases e
theorem ref_listS {nm fl : Str} {mk : V → Src → Prop} {rd : W → Option (List W)} {m : Fn} {t : TA} {ms : Mo (List RV)} (hC : mg nm = some (.ref C)) (rok : RdOk K mg mk rd) (ha : RefA K mg ea Wx t ms) : RefE K mg ea Wx (fun σ H Q => t σ H fun vs H1 => rListO K mg C fl mk m vs H1 Q) (mListS nm fl rd m ms) := by
  intro σ H io Fr s S0 r0 s' e Q hok hex
  refine arg2 ha S0 e hex fun xs vs s1 H1 io1 e2 px R1 => ?_
  rcases bnd_some e2 with ⟨x, e3, rfl⟩ | ⟨ws, s2, e3, e4⟩
  · obtain ⟨_, _, _, _, q, _⟩ := freezeAll_ok px.1 R1 e3
    cases q
  · obtain ⟨_, m2, S2, ws', q, r2⟩ := freezeAll_ok px.1 R1 e3
    cases q
    have T2 := px.2.less m2
    unfold listO at e4
    split at e4
    case h_2 => cases e4
    rename_i w
    split at e4
    case h_2 => cases e4
    rename_i zs hzs
    split at e4
    case h_2 => cases e4
    rename_i n s3 hcall
    split at e4
    case isFalse => cases e4
    rename_i hn
    cases e4
    obtain ⟨wv, k1, k2⟩ := Option.bind_eq_some_iff.mp hzs
    obtain ⟨v, rr, rfl, h1, h2⟩ := r2.cons_inv
    obtain rfl := h2.nil_inv
    obtain ⟨a, dx, fs, u, Z, rfl, hH, hlk, hmk, hz, hlen, few, stay⟩ := fldS_ok hC rok (deref_ok S2 h1 k1) k2
    refine ⟨a, dx, fs, u, Z, rfl, hH, hlk, hmk, hz, fun q it hq hit hne => ?_⟩
    obtain ⟨S3, T3, nf3⟩ := S2.alloc (o := .lst []) hq
    have hit3 : upd H1 q (.lst []) it = none := by rw [upd_ne (Ne.symm hne)]; exact hit
    obtain ⟨S4, T4, nf4⟩ := S3.alloc (o := Z.at it 0) hit3
    have T34 : Stp io1 (Ms io1 Fr s2 σ) Fr H1 io1 (Ms io1 (pls (pls Fr q) it) s2 σ) (upd (upd H1 q (.lst [])) it (Z.at it 0)) := T3.trans (T4.frless fun b z => .inl z)
    have R4 := r2.pers T34.p
    refine spM_use (n := 1) (Wx := fun _ _ _ _ => False) (σ := σ) S4 R4 rfl hcall (fun x q' v H2 io2 p2 => ?_) (fun _ q' => by cases q')
    cases q'
    obtain ⟨S5, T5, R5⟩ := p2
    cases R5
    have hq2 : H2 q = some (.lst []) := by rw [T5.fr q (.inl (.inr rfl)), upd_ne hne, upd_same]
    have hi2 : H2 it = some (Z.at it 0) := by rw [T5.fr it (.inr rfl), upd_same]
    have T35 := T34.trans (T5.frless (Fr' := Fr) fun b z => .inl (.inl z))
    obtain ⟨okZ, rows⟩ := stay T35.p fun b z => S5.trkN z
    refine ⟨n, rfl, hn.1, hn.2, hq2, hi2, okZ, by rw [hlen]; exact few, fun vs lv al => ?_⟩
    have nio : ∀ b, (b = q ∨ b = it) → ¬ (b ∈ io2 ∨ ∃ (i : Nat) (c : Cell), s'.r[i]? = some (.own c) ∧ σ[i]? = some (some (V.ref b))) := fun b hb z => by
      have hF : pls (pls Fr q) it b := hb.elim (fun e => .inl (.inr e)) .inr
      rcases z with z | ⟨i, c, h1, h2⟩
      · exact S5.g.dj b z (.inl hF)
      · obtain ⟨b', o, k1, _, _, k4⟩ := S5.own i c h1
        rw [h2] at k1; cases k1
        exact k4 hF
    have nFr : ∀ b, (b = q ∨ b = it) → ¬ Fr b := fun b hb z => by
      obtain ⟨o, ho, _⟩ := S2.g.fr b (.inl z)
      rcases hb with rfl | rfl
      · rw [hq] at ho; cases ho
      · rw [hit] at ho; cases ho
    have S6 : Sim K mg ea io2 (pls Fr q) s' σ (upd (put H2 it (Z.fin it)) q (.lst vs)) := by
      refine S5.change (fun b z => .inl z) (fun b o hb hM => ?_) (fun b hb => ?_) (fun b z => ?_)
      · have n1 : b ≠ q := fun z => hM (.inr (.inl (.inl (.inr z))))
        have n2 : b ≠ it := fun z => hM (.inr (.inl (.inr z)))
        rw [upd_ne n1, put_ne n2]; exact hb
      · have n1 : b ≠ q := fun z => nio b (.inl z) hb
        have n2 : b ≠ it := fun z => nio b (.inr z) hb
        rw [upd_ne n1, put_ne n2]
      · rcases z with z | z
        · have n1 : b ≠ q := fun e => nFr b (.inl e) z
          have n2 : b ≠ it := fun e => nFr b (.inr e) z
          obtain ⟨o, ho, n⟩ := S5.g.fr b (.inl (.inl (.inl z)))
          exact ⟨o, by rw [upd_ne n1, put_ne n2]; exact ho, n⟩
        · exact ⟨_, by rw [z, upd_same], by intro _ z; cases z⟩
    have T6 : Stp io1 (Ms io1 Fr s2 σ) Fr H1 io2 (Ms io2 (pls Fr q) s' σ) (upd (put H2 it (Z.fin it)) q (.lst vs)) := by
      refine ⟨⟨fun b o hb hM => ?_, fun b z => T35.p.new b (Ms.mono (fun b z => .inl z) b z), T35.p.ext⟩, fun b z => ?_, fun b o hb => ?_⟩
      · have n1 : b ≠ q := fun e => by subst e; rw [hq] at hb; cases hb
        have n2 : b ≠ it := fun e => by subst e; rw [hit] at hb; cases hb
        rw [upd_ne n1, put_ne n2]; exact T35.p.keep b o hb hM
      · have n1 : b ≠ q := fun e => nFr b (.inl e) z
        have n2 : b ≠ it := fun e => nFr b (.inr e) z
        rw [upd_ne n1, put_ne n2]; exact T35.fr b z
      · have n1 : b ≠ q := fun e => by subst e; rw [hq] at hb; cases hb
        have n2 : b ≠ it := fun e => by subst e; rw [hit] at hb; cases hb
        rw [upd_ne n1, put_ne n2]; exact T35.trk b o hb
    have p6 : Pers io2 (Ms io2 (pls (pls Fr q) it) s' σ) H2 io2 (Ms io2 (pls Fr q) s' σ) (upd (put H2 it (Z.fin it)) q (.lst vs)) := by
      refine ⟨fun b o hb hM => ?_, fun b z => .inl (Ms.mono (fun b z => .inl z) b z), fun _ _ e => e⟩
      have n1 : b ≠ q := fun z => hM (.inr (.inl (.inl (.inr z))))
      have n2 : b ≠ it := fun z => hM (.inr (.inl (.inr z)))
      rw [upd_ne n1, put_ne n2]; exact hb
    refine hok _ rfl _ _ io2 ⟨q, .lst vs, rfl, upd_same, fun z => ?_, S6, T2.trans T6, vs, rfl, (rows vs lv al).pers p6⟩
    rcases z with z | z
    · exact nFr q (.inl rfl) z
    · exact nio q (.inl rfl) (.inr z)
end
section
variable {X : Cx} {ea : EA} {Wx : WX} {m : Fn} {k n : Nat} {f C fi flA : Addr} {fdI fdL : FuncData} {psI psL : List Str} {nm fl : Str} {e : Expr} {ms : Mo (List RV)} {pos p : Pos} {mk : V → Src → Prop} {rd : W → Option (List W)}
theorem pee_listS (hC : X.mg nm = some (.ref C)) (rok : RdOk X.K X.mg mk rd) (good : Good X X.A.in1.in1 mk) (pt : IterP X C fl mk n m fi flA fdI fdL psI psL) (hr : Room (n + 3) X.A) (hm : X.mg "list" = none) (ha : Pea X ea Wx [e] ms) (hg : Gl X "list" := by rfl) (hv : bootBuiltins "list" = some (.type "list") := by decide +kernel)
    (st : starEach [e] X.env = (false, eval e X.env) :: starEach [] X.env := by rfl) (npl : (backTo pos (starEach [] X.env)).any (·.1) = false := by rfl) : Pee X ea Wx (.Call (.Name "list" p) [e] [] pos) (mListS nm fl rd m ms) :=
  let ⟨_, q1, r1⟩ := ha.ex; ⟨_, pe_callTy (call_listO pt good hr) hg hm hv q1 (by decide) (by decide) st npl, ref_listS hC rok r1⟩
theorem pee_listO (hC : X.mg nm = some (.ref C)) (hc : IterC X.K C fi flA) (FI : FnOk X.prog X.w X.K X.mg X.base (L2.CX X.prog X.w) n fi fdI psI (spIt C fl fun u S => ∃ l zs, u = .ref l ∧ S = srcL X.K l zs)) (bI : Binds X.K fdI psI [])
    (FL : FnM X.prog X.w X.K X.mg X.base n flA fdL psL m) (hp : psL.length = 1) (bL : Binds X.K fdL psL []) (hr : Room (n + 3) X.A) (hm : X.mg "list" = none) (ha : Pea X ea Wx [e] ms) (hg : Gl X "list" := by rfl) (hv : bootBuiltins "list" = some (.type "list") := by decide +kernel)
    (st : starEach [e] X.env = (false, eval e X.env) :: starEach [] X.env := by rfl) (npl : (backTo pos (starEach [] X.env)).any (·.1) = false := by rfl) : Pee X ea Wx (.Call (.Name "list" p) [e] [] pos) (mListO nm fl m ms) :=
  pee_listS hC rdL_ok (goodL hr.hd) ⟨hc, FI, bI, FL, hp, bL⟩ hr hm ha hg hv st npl
end
end Z
set_option Elab.async false
set_option linter.all false
set_option maxRecDepth 100000
namespace Z
open PySem PySem.Spec PyProof.Rows L2
theorem defItS {P : Program} {w : World} {K : PySem.W.Frag} {mg : Str → Option Value} {base : Heap} {x qual fl self : Str} {st : Stmt} {f C : Addr} {fd : FuncData} {p1 p2 p3 p4 p5 : Pos} {mk : V → Src → Prop} (F : Fun K x qual st f fd) (S : FnScope [self] [self] (defScope st))
    (hb : defBody st = [.Return (some (.Call (.Name "iter" p1) [.Attribute (.Name self p2) fl p3] [] p4)) p5]) (hC : Cls K C) (hno : NoAttr K C fl) (hm : mg "iter" = none)
    (hloc : (defScope st).names.lookup self = some .local) (hgl : ∀ (n : Addr) (cd : Value), (envOfC qual (defScope st) n f cd).kindOf "iter" = some .globalImplicit)
    (hat : ∀ env, attributeBase (.Name self p2) fl env (eval (.Name self p2) env) = eval (.Name self p2) env) (hst : ∀ env, starEach [.Attribute (.Name self p2) fl p3] env = (false, eval (.Attribute (.Name self p2) fl p3) env) :: starEach [] env)
    (ci : ∀ X : Cx, X.K = K → CallR X (.builtin "iter") fun xs H Q => ∃ u Z, xs = [u] ∧ mk u Z ∧ Z.ok H ∧ ∀ it, H it = none → Q (.ref it) (upd H it (Z.at it 0)))
    (hd : (self == ("__debug__" : Str)) = false := by decide) (hcd : (self == ("__classdict__" : Str)) = false := by decide) : FnOk P w K mg base (L2.CX P w) 1 f fd [self] (spIt C fl mk) := by
  refine F.okX S (by rintro vs H Q E ⟨_, _, _, _, _, rfl, _⟩; rfl) fun cdv A outer s H vs Q E hr h => ?_
  obtain ⟨a, dx, fs, u, Z, rfl, ha, hlk, hmk, ok, q⟩ := h
  rw [hb]
  let X := cxOf (L2.CX P w) P w K mg base [self] qual (defScope st) f cdv A outer s H E
  have me : PE X (.Name self p2) (tVar 0) := pe_var rfl (.inl hloc) hd hcd
  have call := pe_callB (X := X) (p := p1) (pos := p4) (x := "iter") (ci X rfl) (hgl _ _) hm (by decide +kernel) (pa_cons (pe_fld (f := fl) (pos := p3) me (hat _)) pa_nil (hst _)) (by decide) (by decide) (hst _) rfl
  exact ⟨_, pss_one (ps_ret call), .ref a, rfl, a, C, dx, fs, u, rfl, ha, hC, hno, hlk, u, Z, rfl, hmk, ok, fun it hit => q it hit⟩
theorem defIt {P : Program} {w : World} {K : PySem.W.Frag} {mg : Str → Option Value} {base : Heap} {x qual fl self : Str} {st : Stmt} {f C : Addr} {fd : FuncData} {p1 p2 p3 p4 p5 : Pos} (F : Fun K x qual st f fd) (S : FnScope [self] [self] (defScope st))
    (hb : defBody st = [.Return (some (.Call (.Name "iter" p1) [.Attribute (.Name self p2) fl p3] [] p4)) p5]) (hC : Cls K C) (hno : NoAttr K C fl) (hm : mg "iter" = none)
    (hloc : (defScope st).names.lookup self = some .local) (hgl : ∀ (n : Addr) (cd : Value), (envOfC qual (defScope st) n f cd).kindOf "iter" = some .globalImplicit)
    (hat : ∀ env, attributeBase (.Name self p2) fl env (eval (.Name self p2) env) = eval (.Name self p2) env) (hst : ∀ env, starEach [.Attribute (.Name self p2) fl p3] env = (false, eval (.Attribute (.Name self p2) fl p3) env) :: starEach [] env)
    (hd : (self == ("__debug__" : Str)) = false := by decide) (hcd : (self == ("__classdict__" : Str)) = false := by decide) : FnOk P w K mg base (L2.CX P w) 1 f fd [self] (spIt C fl fun u S => ∃ l zs, u = .ref l ∧ S = srcL K l zs) := by
  refine defItS F S hb hC hno hm hloc hgl hat hst (fun X e => ?_) hd hcd
  subst e
  rintro pins s σ H _ us Q I r ⟨_, _, rfl, ⟨l, zs, rfl, rfl⟩, ok, q⟩
  exact call_iterL pins s σ H _ us Q I r ⟨l, zs, rfl, ok, q⟩
end Z
set_option Elab.async false
set_option linter.all false
set_option maxRecDepth 100000
namespace Z
open PySem PySem.Spec PyProof.Rows L2
section
variable {K : PySem.W.Frag} {mg : Str → Option Value} {ea : EA} {io io' : List Addr} {Fr Fr' Fr2 : Addr → Prop} {s s' s2 : S} {σ σ' : L2.St} {H H' : Hp} {w : W} {v : V} {c c' : Cell} {o o' : HO} {a p C : Addr} {ws : List W} {vs : List V} {M M' : Addr → Prop} {Wx : WX}
theorem ms_cell : ∀ b, Ms (io ++ [a]) Fr { s with G := s.G ++ [c] } σ b → Ms io (pls Fr a) s σ b := fun b z => by
  rcases z with z | z
  · rcases List.mem_append.mp z with z | z
    · exact .inl z
    · exact .inr (.inl (.inr (by simpa using z)))
  · exact .inr (FrO.mono (fun b z => .inl z) b z)
theorem Sim.cell (x : Sim K mg ea io (pls Fr a) s σ H) (ha : H a = some o) (nf : ¬ FrO Fr s.r σ a) (hc : Rc K mg io (Ms io (pls Fr a) s σ) H c o) :
    Sim K mg ea (io ++ [a]) Fr { s with G := s.G ++ [c] } σ H ∧ Stp io (Ms io (pls Fr a) s σ) (pls Fr a) H (io ++ [a]) (Ms (io ++ [a]) Fr { s with G := s.G ++ [c] } σ) H := by
  have q : Pers io (Ms io (pls Fr a) s σ) H (io ++ [a]) (Ms (io ++ [a]) Fr { s with G := s.G ++ [c] } σ) H := ⟨fun _ _ h _ => h, fun b z => .inl (ms_cell b z), fun n b h => by rw [List.getElem?_append_left (get_lt h)]; exact h⟩
  have nio : a ∉ io := fun z => x.g.dj a z (.inl (.inr rfl))
  refine ⟨⟨x.len, ⟨by simp [x.g.len], fun n b d h1 h2 => ?_, ?_, fun b hb z => ?_, fun b z => x.g.fr b (FrO.mono (fun b z => .inl z) b z)⟩, fun i u e => ?_, fun i d e => ?_, x.dist, fun i y e => ?_⟩, q, fun b z => rfl, fun b u e => ⟨u, e⟩⟩
  · rcases Nat.lt_or_ge n io.length with hn | hn
    · rw [List.getElem?_append_left hn] at h1
      rw [List.getElem?_append_left (by rw [← x.g.len]; exact hn)] at h2
      obtain ⟨o, h3, h4⟩ := x.g.cell n b d h1 h2
      exact ⟨o, h3, h4.pers q⟩
    · rw [List.getElem?_append_right hn] at h1
      rw [List.getElem?_append_right (by rw [← x.g.len]; exact hn)] at h2
      rw [← x.g.len] at h2
      cases k : n - io.length with
      | zero =>
        rw [k] at h1 h2
        simp at h1 h2
        subst h1 h2
        exact ⟨o, ha, hc.pers q⟩
      | succ m => rw [k] at h1; simp at h1
  · rw [List.nodup_append]
    exact ⟨x.g.nd, by simp, fun b hb c hc => by simp at hc; subst hc; exact fun z => nio (z ▸ hb)⟩
  · rcases List.mem_append.mp hb with hb | hb
    · exact x.g.dj b hb (FrO.mono (fun b z => .inl z) b z)
    · simp at hb
      subst hb
      exact nf z
  · obtain ⟨v, h1, h2⟩ := x.val i u e
    exact ⟨v, h1, h2.pers q⟩
  · obtain ⟨b, o, h1, h2, h3, h4⟩ := x.own i d e
    exact ⟨b, o, h1, h2, h3.pers q, fun z => h4 (.inl z)⟩
  · obtain ⟨h1, h2⟩ := x.exc i y e
    exact ⟨h1, h2.pers q⟩
def toCell : RV → Mo RV
  | .own c => fun s => some (.ok (.val (.ref s.G.length)), { s with G := s.G ++ [c] })
  | _ => stk
def mCell (m : Mo RV) : Mo RV := bnd m toCell
theorem ref_cell {t : TE} {m : Mo RV} (h : RefE K mg ea Wx t m) : RefE K mg ea Wx t (mCell m) := by
  intro σ H io Fr s S0 r0 s' e Q hok hex
  rcases bnd_some e with ⟨x, e1, rfl⟩ | ⟨x, s1, e1, e2⟩
  · exact h σ H io Fr s S0 _ _ e1 _ (fun _ q => by cases q) fun x' q cls d H' io' px => by
      cases q
      exact hex _ rfl cls d H' io' px
  · refine h σ H io Fr s S0 _ _ e1 _ (fun x' q v H1 io1 px => ?_) (fun _ q => by cases q)
    cases q
    cases x with
    | val w => cases e2
    | hnd i => cases e2
    | own c =>
      cases e2
      obtain ⟨a, o, rfl, ha, nf, S1, T1, R1⟩ := px
      obtain ⟨S2, T2⟩ := S1.cell ha nf R1
      refine hok _ rfl _ H1 _ ⟨S2, T1.trans (T2.frless fun b z => .inl z), .ref ?_⟩
      rw [← S1.g.len]
      simp
end
section
variable {X : Cx} {ea : EA} {Wx : WX} {e : Expr} {m : Mo RV} {x : Str} {pos : Pos}
theorem pee_cell (h : Pee X ea Wx e m) : Pee X ea Wx e (mCell m) := let ⟨_, p, r⟩ := h.ex; ⟨_, p, ref_cell r⟩
theorem pee_gint {i : Int} (hm : ∃ t, X.mg x = some (.int i t)) (hg : Gl X x := by rfl) (hd : (x == ("__debug__" : Str)) = false := by decide) : Pee X ea Wx (.Name x pos) (mC (.int i)) :=
  let ⟨_, h⟩ := hm; ⟨_, pe_glob (v := .int i) hg h ⟨_, rfl⟩ hd, ref_c fun _ _ _ => .int i⟩
end
end Z
set_option Elab.async false
set_option linter.all false
set_option maxRecDepth 100000
namespace Z
open PySem PySem.Spec PyProof.Rows L2
theorem hu64 {n : Nat} (h : n + 150 < cLine) : n + 64 < cLine := by omega
theorem hu65 {n : Nat} (h : n + 150 < cLine) : n + 65 < cLine := by omega
theorem hu1 {n : Nat} (h : n + 150 < cLine) : n + 1 < cLine := by omega
theorem tk0 {X : Cx} : Takes X W0 := fun u s' x => by
  obtain ⟨a, B, sI, pins, σ, H, cls, d, _, _, _, _, _, _, _, _, w⟩ := x
  exact w.elim
theorem FnM.mono {P : Program} {w : World} {K : PySem.W.Frag} {mg : Str → Option Value} {base : Heap} {j k : Nat} {f : Addr} {fd : FuncData} {ps : List Str} {m : Fn} (F : FnM P w K mg base j f fd ps m) (h : j ≤ k) : FnM P w K mg base k f fd ps m := ⟨F.ok.mono h⟩
section
variable {K : PySem.W.Frag} {mg : Str → Option Value} {C : Addr}
theorem ClsN.nil {f : Str} : ClsN K mg [] f := fun nm h => by cases h
theorem ClsN.cons {f nm : Str} {nms : List Str} (hm : mg nm = some (.ref C)) (c : Cls K C) (n : NoAttr K C f) (r : ClsN K mg nms f) : ClsN K mg (nm :: nms) f := fun x h => by
  rcases List.mem_cons.mp h with rfl | q
  · exact ⟨C, hm, c, n⟩
  · exact r x q
def HdTab (K : PySem.W.Frag) (mg : Str → Option Value) (c : Value) (tbl : List (Str × Bool)) : Prop := ∀ nm b, tbl.lookup nm = some b → ∀ C, mg nm = some (.ref C) → PySem.W.exmOne K (.ref C) c = some b
theorem HdTab.nil {c : Value} : HdTab K mg c [] := fun nm b h => by cases h
theorem HdTab.cons {c : Value} {tbl : List (Str × Bool)} {nm : Str} {b : Bool} (hm : mg nm = some (.ref C)) (h : PySem.W.exmOne K (.ref C) c = some b) (r : HdTab K mg c tbl) : HdTab K mg c ((nm, b) :: tbl) := fun x b' e D hD => by
  rw [List.lookup_cons] at e
  by_cases q : (x == nm) = true
  · have hx : x = nm := eq_of_beq q
    rw [q] at e
    cases e
    subst hx
    rw [hm] at hD
    cases hD
    exact h
  · have q' : (x == nm) = false := by simpa using q
    rw [q'] at e
    exact r x b' e D hD
end
section
variable {P : Program} {w : World} {K : PySem.W.Frag} {mg : Str → Option Value} {base : Heap} {x qual : Str} {st : Stmt} {f : Addr} {fd : FuncData} {N ps : List Str} {k n : Nat} {body : Mo Fl}
theorem defM2 (F : Fun K x qual st f fd) (S : FnScope N ps (defScope st)) (hn : N.length = n)
    (hb : ∀ (cdv : Value) (A : Around) (outer : List Env) (s : Shared) (H : Hp) (E : XK), Room k (A.deeper (envOfC qual (defScope st) s.heap.objs.size f cdv)) → (A.deeper (envOfC qual (defScope st) s.heap.objs.size f cdv)).units + 150 < cLine →
      Takes (cxOf (L2.CX P w) P w K mg base N qual (defScope st) f cdv A outer s H E) (fun cls d _ H => E cls d H) →
      PassesOwn (model P w) (A.deeper (envOfC qual (defScope st) s.heap.objs.size f cdv)) (envOfC qual (defScope st) s.heap.objs.size f cdv) (cxOf (L2.CX P w) P w K mg base N qual (defScope st) f cdv A outer s H E).xe →
      Pess (cxOf (L2.CX P w) P w K mg base N qual (defScope st) f cdv A outer s H E) ea0 (fun cls d _ H => E cls d H) (defBody st) body) : FnM P w K mg base (k + 1) f fd ps (fnM n body) :=
  defM F S hn fun cdv A outer s H E hr => hb cdv A outer s H E hr (by have := hr.un; omega) (takes_of rfl rfl rfl rfl) (passes_of rfl)
end
section
variable {X : Cx} {ea : EA} {Wx : WX} {e o : Expr} {es : List Expr} {mo : Mo RV} {ms : Mo (List RV)} {m : Fn} {k n : Nat} {f C : Addr} {fd : FuncData} {ps : List Str} {x nm mn : Str} {p pos apos : Pos} {ds : List Value} {dw : List W} {dvs : List V}
theorem pee_callN (hp : ps.length = n) (F : FnM X.prog X.w X.K X.mg X.base k f fd ps m) (hr : Room k X.A) (hm : X.mg x = some (.ref f)) (hk : PySem.W.keepIn X.K (.ref f) = true) (hb : Binds X.K fd ps []) (tk : Takes X Wx) (ha : Pea X ea Wx (e :: es) ms)
    (hg : Gl X x := by rfl) (hdb : (x == ("__debug__" : Str)) = false := by decide) (he : starEach (e :: es) X.env = (false, eval e X.env) :: starEach es X.env := by rfl) (hpl : (backTo pos (starEach es X.env)).any (·.1) = false := by rfl) :
    Pee X ea Wx (.Call (.Name x p) (e :: es) [] pos) (mCall n m ms) := by subst hp; exact pee_call F hr hm hk hb tk ha hg hdb he hpl
theorem pee_methN {pl : Sem Bool} (hp : ps.length = n) (hC : X.mg nm = some (.ref C)) (c : Cls X.K C) (hm : Meth X.K C mn f) (F : FnM X.prog X.w X.K X.mg X.base k f fd ps m) (hr : Room k X.A) (hb : Binds X.K fd ps ds) (hd : Vals dvs ds) (hw : Dfl X.K X.mg dw dvs) (tk : Takes X Wx) (ho : Pee X ea Wx o mo) (ha : Pea X ea Wx (e :: es) ms)
    (hst : starEach (e :: es) X.env = (false, eval e X.env) :: starEach es X.env := by rfl) (hpl : (backTo pos (starEach es X.env)).any (·.1) = false := by rfl)
    (ht : eval (.Call (.Attribute o mn apos) (e :: es) [] pos) X.env = (do
      let ov ← eval o X.env
      standAt apos.atName
      let (f, first) ← holding [ov] (getMethod ov mn pl)
      callWith pos f first (backTo pos (starEach (e :: es) X.env)) (backToKw pos (keywordEach [] X.env))) := by rfl) :
    Pee X ea Wx (.Call (.Attribute o mn apos) (e :: es) [] pos) (mMeth nm mn n m dw mo ms) := by subst hp; exact pee_meth hC c hm F hr hb hd hw tk ho ha hst hpl ht
theorem pee_meth0N {pl : Sem Bool} (hp : ps.length = n) (hC : X.mg nm = some (.ref C)) (c : Cls X.K C) (hm : Meth X.K C mn f) (F : FnM X.prog X.w X.K X.mg X.base k f fd ps m) (hr : Room k X.A) (hb : Binds X.K fd ps ds) (hd : Vals dvs ds) (hw : Dfl X.K X.mg dw dvs) (tk : Takes X Wx) (ho : Pee X ea Wx o mo)
    (ht : eval (.Call (.Attribute o mn apos) [] [] pos) X.env = (do
      let ov ← eval o X.env
      standAt apos.atName
      let (f, first) ← holding [ov] (getMethod ov mn pl)
      callWith pos f first (backTo pos (starEach [] X.env)) (backToKw pos (keywordEach [] X.env))) := by rfl) :
    Pee X ea Wx (.Call (.Attribute o mn apos) [] [] pos) (mMeth nm mn n m dw mo mNil) := by subst hp; exact pee_meth0 hC c hm F hr hb hd hw tk ho ht
theorem pee_makeN (hp : ps.length = n) (hC : X.mg x = some (.ref C)) (M : Mk X.K C f) (F : FnM X.prog X.w X.K X.mg X.base k f fd ps m) (hr : Room (k + 1) X.A) (hb : Binds X.K fd ps ds) (hd : Vals dvs ds) (hw : Dfl X.K X.mg dw dvs) (tk : Takes X Wx) (ha : Pea X ea Wx (e :: es) ms) (hg : Gl X x := by rfl)
    (hdb : (x == ("__debug__" : Str)) = false := by decide) (he : starEach (e :: es) X.env = (false, eval e X.env) :: starEach es X.env := by rfl) (hpl : (backTo pos (starEach es X.env)).any (·.1) = false := by rfl) :
    Pee X ea Wx (.Call (.Name x p) (e :: es) [] pos) (mMake x n m dw ms) := by subst hp; exact pee_make hC M F hr hb hd hw tk ha hg hdb he hpl
end
end Z
set_option Elab.async false
set_option linter.all false
set_option maxRecDepth 100000
namespace Z
open PySem PySem.Spec PyProof.Rows L2
def spLaw (K : PySem.W.Frag) : Sp := fun vs H Q _ => ∃ (a : Addr) (ns : List Int), vs = [.ref a] ∧ SqL K H a (ns.map V.int) ∧ ns.length ≤ 63 ∧ (∀ z ∈ ns, Builtin.Int.intBits z ≤ 1048576) ∧ ∀ H', Q (.bl true) H'
def Says (m : Fn) : Prop := ∀ ns : List Int, ns.length ≤ 63 → (∀ z ∈ ns, Builtin.Int.intBits z ≤ 1048576) → ∃ G', m [.frl (ns.map W.int)] [] = some (.ok (.val (.bl true)), G')
theorem law_end {P : Program} {w : World} {K : PySem.W.Frag} {mg : Str → Option Value} {base : Heap} {k : Nat} {f : Addr} {fd : FuncData} {m : Fn} {x : Str} (F : FnM P w K mg base k f fd [x] m) (h : Says m) : FnOk P w K mg base (L2.CX P w) k f fd [x] (spLaw K) := by
  refine F.ok.imp fun vs H Q E hh => ?_
  obtain ⟨a, ns, rfl, hS, hl, hb, hq⟩ := hh
  obtain ⟨G', e⟩ := h ns hl hb
  refine ⟨rfl, [], fun _ => False, [], _, _, G', ?_, Rws.one ?_, e, fun f hf v H' io' p => ?_, fun x hx => by cases hx⟩
  · exact ⟨rfl, fun n a c h1 => by simp at h1, List.nodup_nil, fun a ha => by simp at ha, fun a z => z.elim⟩
  · refine .frl (vs := ns.map V.int) ?_ (by simp) fun i w v h1 h2 => ?_
    · rcases hS with hS | hS
      · exact .inl ⟨hS, fun z => by rcases z with z | z; · simp at z
                                    · exact z⟩
      · exact .inr hS
    · rw [List.getElem?_map] at h1 h2
      cases e1 : ns[i]? with
      | none => rw [e1] at h1; cases h1
      | some z => rw [e1] at h1 h2; cases h1; cases h2; exact .int z
  · cases hf
    obtain ⟨_, _, r⟩ := p
    cases r
    exact hq H'
end Z
set_option Elab.async false
set_option linter.all false
set_option maxRecDepth 100000
namespace Z
open PySem PySem.Spec PyProof.Rows L2
section
variable {α β : Type} {r : List SV} {G : List Cell} {m ma mb mc mo mv mi me : Mo RV} {ms : Mo (List RV)} {i n : Nat} {w : W} {s : S}
@[simp] theorem bnd_e {m : Mo α} {f : α → Mo β} : bnd m f ⟨r, G⟩ = match m ⟨r, G⟩ with
  | none => none
  | some (.error x, s') => some (.error x, s')
  | some (.ok a, s') => f a s' := rfl
@[simp] theorem ret_e {a : α} : ret a ⟨r, G⟩ = some (.ok a, ⟨r, G⟩) := rfl
@[simp] theorem stk_e : (stk : Mo α) ⟨r, G⟩ = none := rfl
@[simp] theorem raiseM_e {x : Ex} : (raiseM x : Mo α) ⟨r, G⟩ = some (.error x, ⟨r, G⟩) := rfl
@[simp] theorem mName_e : mName i ⟨r, G⟩ = match r[i]? with
  | some (.val w) => some (.ok (.val w), ⟨r, G⟩)
  | some (.own _) => some (.ok (.hnd i), ⟨r, G⟩)
  | _ => none := rfl
@[simp] theorem mC_e : mC w ⟨r, G⟩ = some (.ok (.val w), ⟨r, G⟩) := rfl
@[simp] theorem settle_val : settle (.val w) = .val w := rfl
@[simp] theorem settle_hnd : settle (.hnd i) = .hnd i := rfl
@[simp] theorem settle_own {c : Cell} : settle (.own c) = .val c.toW := rfl
@[simp] theorem look_int {k : Int} : look (.val (.int k)) ⟨r, G⟩ = some (.ok (.int k), ⟨r, G⟩) := rfl
@[simp] theorem look_bl {k : Bool} : look (.val (.bl k)) ⟨r, G⟩ = some (.ok (.bl k), ⟨r, G⟩) := rfl
@[simp] theorem look_non : look (.val .non) ⟨r, G⟩ = some (.ok .non, ⟨r, G⟩) := rfl
@[simp] theorem look_str {k : Str} : look (.val (.str k)) ⟨r, G⟩ = some (.ok (.str k), ⟨r, G⟩) := rfl
@[simp] theorem look_byt {k : Array UInt8} : look (.val (.byt k)) ⟨r, G⟩ = some (.ok (.byt k), ⟨r, G⟩) := rfl
@[simp] theorem look_tup {k : List W} : look (.val (.tup k)) ⟨r, G⟩ = some (.ok (.tup k), ⟨r, G⟩) := rfl
@[simp] theorem look_lst {k : List W} : look (.val (.lst k)) ⟨r, G⟩ = some (.ok (.lst k), ⟨r, G⟩) := rfl
@[simp] theorem look_frl {k : List W} : look (.val (.frl k)) ⟨r, G⟩ = some (.ok (.frl k), ⟨r, G⟩) := rfl
@[simp] theorem look_dK {k : List (Key × W)} : look (.val (.dK k)) ⟨r, G⟩ = some (.ok (.dK k), ⟨r, G⟩) := rfl
@[simp] theorem look_dT {k : List (List Key × W)} : look (.val (.dT k)) ⟨r, G⟩ = some (.ok (.dT k), ⟨r, G⟩) := rfl
@[simp] theorem look_obj {nm : Str} {k : List (Str × W)} : look (.val (.obj nm k)) ⟨r, G⟩ = some (.ok (.obj nm k), ⟨r, G⟩) := rfl
@[simp] theorem look_ref {k : Nat} : look (.val (.ref k)) ⟨r, G⟩ = (G[k]?).map fun c => (.ok c.toW, ⟨r, G⟩) := by
  show ((G[k]?).map Cell.toW).map _ = _
  rw [Option.map_map]; rfl
@[simp] theorem look_hnd : look (.hnd i) ⟨r, G⟩ = match r[i]? with
    | some (.own c) => some (.ok c.toW, ⟨r, G⟩)
    | some (.val w) => (derefW ⟨r, G⟩ w).map fun z => (.ok z, ⟨r, G⟩)
    | _ => none := rfl
@[simp] theorem deref_int {k : Int} : derefW s (.int k) = some (.int k) := rfl
@[simp] theorem deref_tup {k : List W} : derefW s (.tup k) = some (.tup k) := rfl
@[simp] theorem deref_lst {k : List W} : derefW s (.lst k) = some (.lst k) := rfl
@[simp] theorem deref_frl {k : List W} : derefW s (.frl k) = some (.frl k) := rfl
@[simp] theorem deref_dK {k : List (Key × W)} : derefW s (.dK k) = some (.dK k) := rfl
@[simp] theorem deref_dT {k : List (List Key × W)} : derefW s (.dT k) = some (.dT k) := rfl
@[simp] theorem deref_obj {nm : Str} {k : List (Str × W)} : derefW s (.obj nm k) = some (.obj nm k) := rfl
@[simp] theorem deref_ref {k : Nat} : derefW ⟨r, G⟩ (.ref k) = (G[k]?).map Cell.toW := rfl
@[simp] theorem freeze_val : freeze (.val w) ⟨r, G⟩ = some (.ok w, ⟨r, G⟩) := rfl
@[simp] theorem freeze_hnd : freeze (.hnd i) ⟨r, G⟩ = match r[i]? with
    | some (.own c) => some (.ok c.toW, ⟨r.set i (.val c.toW), G⟩)
    | some (.val w) => some (.ok w, ⟨r, G⟩)
    | _ => none := rfl
@[simp] theorem liftO_e {z : OR} : liftO (some z) ⟨r, G⟩ = some (.ok z.toRV, ⟨r, G⟩) := rfl
@[simp] theorem liftO_n : liftO none ⟨r, G⟩ = none := rfl
@[simp] theorem liftB_e {z : Bool} : liftB (some z) ⟨r, G⟩ = some (.ok z, ⟨r, G⟩) := rfl
@[simp] theorem opM_e {f : W → W → Option OR} {x y : RV} : opM f x y ⟨r, G⟩ = bnd (look x) (fun wx => bnd (look y) fun wy => liftO (f wx wy)) ⟨r, G⟩ := rfl
@[simp] theorem mBin_e {f : W → W → Option OR} : mBin f ma mb ⟨r, G⟩ = bnd ma (fun x => bnd mb fun y => opM f (settle x) (settle y)) ⟨r, G⟩ := rfl
@[simp] theorem mUn_e {f : W → Option OR} : mUn f ma ⟨r, G⟩ = bnd ma (fun x => bnd (look (settle x)) fun wx => liftO (f wx)) ⟨r, G⟩ := rfl
@[simp] theorem toB_e {b : Bool} : toB (.val (.bl b)) ⟨r, G⟩ = some (.ok b, ⟨r, G⟩) := rfl
@[simp] theorem mB_e : mB m ⟨r, G⟩ = bnd m toB ⟨r, G⟩ := rfl
@[simp] theorem mTru_e : mTru m ⟨r, G⟩ = bnd m (fun x => bnd (look (settle x)) fun w => liftB (truW w)) ⟨r, G⟩ := rfl
@[simp] theorem mAnd_e {a b : Mo Bool} : mAnd a b ⟨r, G⟩ = bnd a (fun x => if x = true then b else ret false) ⟨r, G⟩ := rfl
@[simp] theorem mOr_e {a b : Mo Bool} : mOr a b ⟨r, G⟩ = bnd a (fun x => if x = true then ret true else b) ⟨r, G⟩ := rfl
@[simp] theorem mNot_e {a : Mo Bool} : mNot a ⟨r, G⟩ = bnd a (fun x => ret (!x)) ⟨r, G⟩ := rfl
@[simp] theorem mIf_e {c : Mo Bool} {a b : Mo Fl} : mIf c a b ⟨r, G⟩ = bnd c (fun x => if x = true then a else b) ⟨r, G⟩ := rfl
@[simp] theorem mIfE_e {c : Mo Bool} {a b : Mo RV} : mIfE c a b ⟨r, G⟩ = bnd c (fun x => if x = true then a else b) ⟨r, G⟩ := rfl
@[simp] theorem mAndV_e : mAndV ma mb ⟨r, G⟩ = bnd (mB ma) (fun x => if x = true then mb else ret (.val (.bl false))) ⟨r, G⟩ := rfl
@[simp] theorem mNotV_e : mNotV ma ⟨r, G⟩ = bnd (mB ma) (fun x => ret (.val (.bl (!x)))) ⟨r, G⟩ := rfl
@[simp] theorem mSeq_e {a b : Mo Fl} : mSeq a b ⟨r, G⟩ = match a ⟨r, G⟩ with
  | none => none
  | some (.error x, s') => some (.error x, s')
  | some (.ok .nx, s') => b s'
  | some (.ok .bk, s') => some (.ok .bk, s')
  | some (.ok .ct, s') => some (.ok .ct, s')
  | some (.ok (.rt f), s') => some (.ok (.rt f), s') := by
  unfold mSeq bnd
  cases a ⟨r, G⟩ with
  | none => rfl
  | some p =>
    obtain ⟨q, s'⟩ := p
    cases q with
    | error x => rfl
    | ok f => cases f <;> rfl
@[simp] theorem mNext_e : mNext ⟨r, G⟩ = some (.ok .nx, ⟨r, G⟩) := rfl
@[simp] theorem land_val : land (.val w) ⟨r, G⟩ = some (.ok (.val w), ⟨r, G⟩) := rfl
@[simp] theorem land_own {c : Cell} : land (.own c) ⟨r, G⟩ = some (.ok (.own c), ⟨r, G⟩) := rfl
@[simp] theorem land_hnd : land (.hnd i) ⟨r, G⟩ = bnd (freeze (.hnd i)) (fun w => ret (.val w)) ⟨r, G⟩ := rfl
@[simp] theorem setM_e {x : SV} : setM i x ⟨r, G⟩ = some (.ok .nx, ⟨r.set i x, G⟩) := rfl
@[simp] theorem mAsg_e : mAsg i m ⟨r, G⟩ = bnd m (fun x => bnd (land x) fun y => setM i y) ⟨r, G⟩ := rfl
@[simp] theorem mDrop_e : mDrop m ⟨r, G⟩ = bnd m (fun _ => ret .nx) ⟨r, G⟩ := rfl
@[simp] theorem retM_val : retM (.val w) ⟨r, G⟩ = some (.ok (.rt (.val w)), ⟨r, G⟩) := rfl
@[simp] theorem retM_own {c : Cell} : retM (.own c) ⟨r, G⟩ = some (.ok (.rt (.own c)), ⟨r, G⟩) := rfl
@[simp] theorem retM_hnd : retM (.hnd i) ⟨r, G⟩ = match r[i]? with
    | some (.own c) => some (.ok (.rt (.own c)), ⟨r, G⟩)
    | some (.val w) => some (.ok (.rt (.val w)), ⟨r, G⟩)
    | _ => none := rfl
@[simp] theorem mRet_e : mRet m ⟨r, G⟩ = bnd m retM ⟨r, G⟩ := rfl
@[simp] theorem mNil_e : mNil ⟨r, G⟩ = some (.ok [], ⟨r, G⟩) := rfl
@[simp] theorem mCons_e : mCons m ms ⟨r, G⟩ = bnd m (fun x => bnd ms fun xs => ret (settle x :: xs)) ⟨r, G⟩ := rfl
@[simp] theorem freezeAll_nil : freezeAll [] ⟨r, G⟩ = some (.ok [], ⟨r, G⟩) := rfl
@[simp] theorem freezeAll_cons {x : RV} {xs : List RV} : freezeAll (x :: xs) ⟨r, G⟩ = bnd (freeze x) (fun w => bnd (freezeAll xs) fun ws => ret (w :: ws)) ⟨r, G⟩ := rfl
@[simp] theorem lookAll_nil : lookAll [] ⟨r, G⟩ = some (.ok [], ⟨r, G⟩) := rfl
@[simp] theorem lookAll_cons {x : RV} {xs : List RV} : lookAll (x :: xs) ⟨r, G⟩ = bnd (look x) (fun w => bnd (lookAll xs) fun ws => ret (w :: ws)) ⟨r, G⟩ := rfl
@[simp] theorem mTup_e : mTup ms ⟨r, G⟩ = bnd ms (fun xs => bnd (freezeAll xs) fun ws => if ws.length ≤ sz then ret (.val (.tup ws)) else stk) ⟨r, G⟩ := rfl
@[simp] theorem mLst_e : mLst ms ⟨r, G⟩ = bnd ms (fun xs => bnd (freezeAll xs) fun ws => if ws.length ≤ sz then ret (.own (.lst ws)) else stk) ⟨r, G⟩ := rfl
@[simp] theorem mCB_e {f : List W → Option OR} : mCB f ms ⟨r, G⟩ = bnd ms (fun xs => bnd (lookAll xs) fun ws => liftO (f ws)) ⟨r, G⟩ := rfl
@[simp] theorem mAsgT_e {t : W → Mo Unit} : mAsgT t m ⟨r, G⟩ = bnd m (fun x => bnd (freeze (settle x)) fun w => bnd (t w) fun _ => ret .nx) ⟨r, G⟩ := rfl
@[simp] theorem tgN_e : tgN i w ⟨r, G⟩ = some (.ok (), ⟨r.set i (.val w), G⟩) := rfl
@[simp] theorem tgT_e {u : List W → Mo Unit} {ws : List W} : tgT n u (.tup ws) ⟨r, G⟩ = if ws.length = n then u ws ⟨r, G⟩ else none := by
  show (if ws.length = n then u ws else stk) ⟨r, G⟩ = _
  split <;> rfl
@[simp] theorem tgsNil_e : tgsNil [] ⟨r, G⟩ = some (.ok (), ⟨r, G⟩) := rfl
@[simp] theorem tgsCons_e {t : W → Mo Unit} {u : List W → Mo Unit} {ws : List W} : tgsCons t u (w :: ws) ⟨r, G⟩ = bnd (t w) (fun _ => u ws) ⟨r, G⟩ := rfl
@[simp] theorem mFor_e {mi : Mo Wk} {t : W → Mo Unit} {mb : Mo Fl} : mFor mi t mb ⟨r, G⟩ = bnd mi (fun k => forL k k.ws fun w => bnd (t w) fun _ => mb) ⟨r, G⟩ := rfl
@[simp] theorem mIter_e : mIter m ⟨r, G⟩ = bnd m (fun x => bnd (freeze (settle x)) fun w s => (walkOf s w).map fun k => (.ok k, s)) ⟨r, G⟩ := rfl
@[simp] theorem walk_lst {ws : List W} : walkOf s (.lst ws) = some ⟨ws, none⟩ := rfl
@[simp] theorem walk_frl {ws : List W} : walkOf s (.frl ws) = some ⟨ws, none⟩ := rfl
@[simp] theorem walk_tup {ws : List W} : walkOf s (.tup ws) = some ⟨ws, none⟩ := rfl
@[simp] theorem walk_ref : walkOf ⟨r, G⟩ (.ref n) = match G[n]? with
    | some (.lst ws) => some ⟨ws, some n⟩
    | _ => none := rfl
theorem lk_nat {n : Nat} (h : n ≤ 1000000) : Lk (n : Int) := by unfold Lk; omega
@[simp] theorem rk_small {j : Int} (h : -1000000 ≤ j ∧ j ≤ 1000000) : Rk j := by unfold Rk; omega
theorem rk_nat {n : Nat} (h : n ≤ 1000000) : Rk (n : Int) := by unfold Rk; omega
@[simp] theorem mRng1_e : mRng1 ms ⟨r, G⟩ = bnd ms (fun xs => bnd (lookAll xs) fun ws => match ws with
  | [.int j] => if Rk j then ret ⟨rngW 0 j.toNat, none⟩ else stk
  | _ => stk) ⟨r, G⟩ := rfl
@[simp] theorem mLc_e {vs : List Nat} {mi : Mo Wk} {t : W → Mo Unit} {tt : Mo Bool} : mLc vs mi t tt me ⟨r, G⟩ = bnd mi (fun k s => lcL vs t tt me k k.ws [] (wipeS vs s)) ⟨r, G⟩ := rfl
@[simp] theorem mYes_e : mYes ⟨r, G⟩ = some (.ok true, ⟨r, G⟩) := rfl
@[simp] theorem wipeS_e {vs : List Nat} : wipeS vs ⟨r, G⟩ = ⟨wipeR r vs, G⟩ := rfl
@[simp] theorem wipeR_nil : wipeR r [] = r := rfl
@[simp] theorem wipeR_cons {vs : List Nat} : wipeR r (n :: vs) = (wipeR r vs).set n .non := rfl
@[simp] theorem mChain_e {f g : W → W → Option OR} : mChain f g ma mb mc ⟨r, G⟩ = bnd ma (fun x => bnd mb fun y => bnd (mB (opM f (settle x) (settle y))) fun k => if k = true then bnd mc fun z => opM g (settle y) (settle z) else ret (.val (.bl false))) ⟨r, G⟩ := rfl
@[simp] theorem mMut_e {k : CK} {f : Cell → List W → Option (W × Cell)} : mMut k f mo ms ⟨r, G⟩ = bnd mo (fun x s => if ((cellAt s (settle x)).map k.fits) = some true then (bnd ms fun xs => bnd (freezeAll xs) fun ws s2 => match cellAt s2 (settle x) with
  | some c => (match f c ws with
    | some (w, c') => some (.ok (.val w), putAt s2 c' (settle x))
    | none => none)
  | none => none) s else none) ⟨r, G⟩ := rfl
@[simp] theorem cellAt_hnd : cellAt ⟨r, G⟩ (.hnd i) = match r[i]? with
    | some (.own c) => some c
    | some (.val (.ref n)) => G[n]?
    | _ => none := rfl
@[simp] theorem cellAt_ref : cellAt ⟨r, G⟩ (.val (.ref n)) = G[n]? := rfl
@[simp] theorem putAt_hnd {c : Cell} : putAt ⟨r, G⟩ c (.hnd i) = match r[i]? with
    | some (.own _) => ⟨r.set i (.own c), G⟩
    | some (.val (.ref n)) => ⟨r, G.set n c⟩
    | _ => ⟨r, G⟩ := by
  unfold putAt
  rfl
@[simp] theorem putAt_ref {c : Cell} : putAt ⟨r, G⟩ c (.val (.ref n)) = ⟨r, G.set n c⟩ := rfl
@[simp] theorem fits_l {ws : List W} : CK.fits .lst (.lst ws) = true := rfl
@[simp] theorem mCall_e {m : Fn} : mCall n m ms ⟨r, G⟩ = bnd ms (fun xs => bnd (freezeAll xs) fun ws => if ws.length = n then callG m ws else stk) ⟨r, G⟩ := rfl
@[simp] theorem callG_e {m : Fn} {ws : List W} : callG m ws ⟨r, G⟩ = match m ws G with
  | some (.ok f, G') => some (.ok (rvOf f), ⟨r, G'⟩)
  | some (.error x, G') => some (.error x, ⟨r, G'⟩)
  | none => none := rfl
@[simp] theorem rvOf_val : rvOf (.val w) = .val w := rfl
@[simp] theorem rvOf_own {c : Cell} : rvOf (.own c) = .own c := rfl
@[simp] theorem mCallW_e {m : Fn} : mCallW n m ms ⟨r, G⟩ = bnd ms (fun xs => bnd (freezeAll xs) fun ws => if ws.length = n then quiet (callG m ws) else stk) ⟨r, G⟩ := rfl
@[simp] theorem quiet_e : quiet m ⟨r, G⟩ = match m ⟨r, G⟩ with
  | some (.ok x, s') => some (.ok x, s')
  | _ => none := rfl
@[simp] theorem chk_e {nm mn : Str} : chk nm mn w ⟨r, G⟩ = match derefW ⟨r, G⟩ w with
  | some (.obj nm' fs) => if nm' = nm ∧ fs.lookup mn = none then some (.ok (), ⟨r, G⟩) else none
  | _ => none := rfl
@[simp] theorem mMeth_e {nm mn : Str} {m : Fn} {ds : List W} : mMeth nm mn n m ds mo ms ⟨r, G⟩ = bnd mo (fun x => bnd (freeze (settle x)) fun w => bnd (chk nm mn w) fun _ => bnd ms fun xs => bnd (freezeAll xs) fun ws =>
  if (w :: (ws ++ ds)).length = n then callG m (w :: (ws ++ ds)) else stk) ⟨r, G⟩ := rfl
@[simp] theorem mMake_e {nm : Str} {m : Fn} {ds : List W} : mMake nm n m ds ms ⟨r, G⟩ = bnd ms (fun xs => bnd (freezeAll xs) fun ws => if (ws ++ ds).length + 1 = n then makeG nm m (ws ++ ds) else stk) ⟨r, G⟩ := rfl
@[simp] theorem mSetF_e {nms : List Str} {f : Str} : mSetF nms f mo mv ⟨r, G⟩ = bnd mv (fun y => bnd (freeze (settle y)) fun wy => bnd mo fun x => putFld nms f wy x) ⟨r, G⟩ := rfl
@[simp] theorem putFld_e {nms : List Str} {f : Str} : putFld nms f w (.val (.ref n)) ⟨r, G⟩ = match G[n]? with
    | some (.ins nm fs) => if nm ∈ nms ∧ fs.length < 1000 then some (.ok .nx, ⟨r, G.set n (.ins nm (putFW f w fs))⟩) else none
    | _ => none := rfl
@[simp] theorem mRaise_e {nm : Str} {fs : List Str} : mRaise nm fs ms ⟨r, G⟩ = bnd ms (fun xs => bnd (freezeAll xs) fun ws => if ws.length = fs.length ∧ ws.length ≤ 1000 then raiseM ⟨nm, (fs.zip ws).reverse⟩ else stk) ⟨r, G⟩ := rfl
@[simp] theorem mRaise0_e {nm : Str} : mRaise0 nm ⟨r, G⟩ = some (.error ⟨nm, []⟩, ⟨r, G⟩) := rfl
@[simp] theorem mIs_e {tab : List (CT × Bool)} : mIs tab m ⟨r, G⟩ = bnd m (fun x => bnd (look (settle x)) fun w => liftO ((tyOfW w).bind fun c => (tabAt tab c).map fun b => .imm (.bl b))) ⟨r, G⟩ := rfl
@[simp] theorem mBinS_e {f : RV → RV → Mo RV} : mBinS f ma mb ⟨r, G⟩ = bnd ma (fun x => bnd mb fun y => f (settle x) (settle y)) ⟨r, G⟩ := rfl
@[simp] theorem mOwn2_e {nm : Str} {tys : List CT} {m : Fn} {x y : RV} : mOwn2 nm tys m x y ⟨r, G⟩ = bnd (freezeAll [x, y]) (fun ws => bnd (chkO nm tys ws) fun _ => callG m ws) ⟨r, G⟩ := rfl
@[simp] theorem chkO_e {nm : Str} {tys : List CT} {x y : W} : chkO nm tys [x, y] ⟨r, G⟩ = match derefW ⟨r, G⟩ x, (derefW ⟨r, G⟩ y).bind tyOfW with
    | some (.obj nm' _), some ct => if nm' = nm ∧ ct ∈ tys then some (.ok (), ⟨r, G⟩) else none
    | _, _ => none := rfl
@[simp] theorem chk1_e {nm : Str} {x : W} {xs : List W} : chk1 nm (x :: xs) ⟨r, G⟩ = match derefW ⟨r, G⟩ x with
    | some (.obj nm' _) => if nm' = nm then some (.ok (), ⟨r, G⟩) else none
    | _ => none := rfl
@[simp] theorem mLenO_e {nm : Str} {m : Fn} : mLenO nm m ms ⟨r, G⟩ = bnd ms (fun xs => bnd (freezeAll xs) fun ws => if ws.length = 1 then bnd (chk1 nm ws) fun _ => bnd (callG m ws) toLen else stk) ⟨r, G⟩ := rfl
@[simp] theorem toLen_e {k : Int} : toLen (.val (.int k)) ⟨r, G⟩ = if Lk k then some (.ok (.val (.int k)), ⟨r, G⟩) else none := by
  show (if Lk k then ret (.val (.int k)) else stk : Mo RV) ⟨r, G⟩ = _
  split <;> rfl
@[simp] theorem mListO_e {nm fl : Str} {m : Fn} : mListO nm fl m ms ⟨r, G⟩ = bnd ms (fun xs => bnd (freezeAll xs) fun ws => listO nm fl rdL m ws) ⟨r, G⟩ := rfl
@[simp] theorem mListS_e {nm fl : Str} {rd : W → Option (List W)} {m : Fn} : mListS nm fl rd m ms ⟨r, G⟩ = bnd ms (fun xs => bnd (freezeAll xs) fun ws => listO nm fl rd m ws) ⟨r, G⟩ := rfl
@[simp] theorem listO_e {nm fl : Str} {rd : W → Option (List W)} {m : Fn} : listO nm fl rd m [w] ⟨r, G⟩ = match (derefW ⟨r, G⟩ w).bind (fldS nm fl rd) with
    | some zs => (match callG m [w] ⟨r, G⟩ with
      | some (.ok (.val (.int n)), s') => if 0 ≤ n ∧ n ≤ sz then some (.ok (.own (.lst zs)), s') else none
      | _ => none)
    | none => none := rfl
@[simp] theorem mCell_e : mCell m ⟨r, G⟩ = bnd m toCell ⟨r, G⟩ := rfl
@[simp] theorem toCell_e {c : Cell} : toCell (.own c) ⟨r, G⟩ = some (.ok (.val (.ref G.length)), ⟨r, G ++ [c]⟩) := rfl
end
section
variable {a b : Int}
@[simp] theorem fAdd_i : fAdd (.int a) (.int b) = some (.imm (.int (a + b))) := rfl
@[simp] theorem fSub_i : fSub (.int a) (.int b) = some (.imm (.int (a - b))) := rfl
@[simp] theorem fMul_i : fMul (.int a) (.int b) = if CMul a b then some (.imm (.int (a * b))) else none := by
  unfold fMul orf fIC fRepL
  split <;> rename_i h <;> split at h <;> simp_all
@[simp] theorem fDiv_i : fDiv (.int a) (.int b) = if CDivW a b then some (.imm (.int (a / b))) else none := rfl
@[simp] theorem fMod_i : fMod (.int a) (.int b) = if 0 < b then some (.imm (.int (a % b))) else none := rfl
@[simp] theorem fPow_i : fPow (.int a) (.int b) = if CPow a b then some (.imm (.int (a ^ b.toNat))) else none := rfl
@[simp] theorem fShl_i : fShl (.int a) (.int b) = if CPow a b then some (.imm (.int (a * 2 ^ b.toNat))) else none := rfl
@[simp] theorem fShr_i : fShr (.int a) (.int b) = if 0 ≤ b then some (.imm (.int (a / 2 ^ b.toNat))) else none := rfl
@[simp] theorem fNeg_i : fNeg (.int a) = some (.imm (.int (-a))) := rfl
@[simp] theorem fLt_i : fLt (.int a) (.int b) = some (.imm (.bl (decide (a < b)))) := rfl
@[simp] theorem fLe_i : fLe (.int a) (.int b) = some (.imm (.bl (decide (a ≤ b)))) := rfl
@[simp] theorem fInt1_i : fInt1 [.int a] = some (.imm (.int a)) := rfl
@[simp] theorem fLen_l {ws : List W} : fLen [.lst ws] = some (.imm (.int ws.length)) := rfl
@[simp] theorem fLen_f {ws : List W} : fLen [.frl ws] = some (.imm (.int ws.length)) := rfl
@[simp] theorem fLen_t {ws : List W} : fLen [.tup ws] = some (.imm (.int ws.length)) := rfl
@[simp] theorem fIx_l {ws : List W} : fIx (.lst ws) (.int a) = (atI ws a).map .imm := by
  unfold fIx orf fIxS
  cases h : atI ws a <;> simp [h, fIxD, dLook]
@[simp] theorem fIx_f {ws : List W} : fIx (.frl ws) (.int a) = (atI ws a).map .imm := by
  unfold fIx orf fIxS
  cases h : atI ws a <;> simp [h, fIxD, dLook]
@[simp] theorem fIx_t {ws : List W} : fIx (.tup ws) (.int a) = (atI ws a).map .imm := by
  unfold fIx orf fIxS
  cases h : atI ws a <;> simp [h, fIxD, dLook]
theorem atI_mapI {xs : List Int} {k : Nat} (h : k < xs.length) : atI (xs.map W.int) (k : Int) = some (.int (xs[k]'h)) := atI_nat (by simp [h])
end
theorem fnM_e {n : Nat} {body : Mo Fl} {ws : List W} {G : List Cell} : fnM n body ws G = match body ⟨ws.map SV.val ++ List.replicate (n - ws.length) SV.non, G⟩ with
  | some (.ok (.rt f), s) => some (.ok f, s.G)
  | some (.ok .nx, s) => some (.ok (.val .non), s.G)
  | some (.error x, s) => some (.error x, s.G)
  | _ => none := rfl
end Z
set_option Elab.async false
set_option linter.all false
set_option maxRecDepth 100000
namespace Z
open PySem PySem.Spec PyProof.Rows L2
section
variable {ws ws0 : List W} {k : Wk} {b : W → Mo Fl} {s : S} {F : Option (Except Ex Fl × S)}
@[simp] theorem ok_none : Wk.ok ⟨ws, none⟩ s ↔ True := Iff.rfl
@[simp] theorem ok_some {n : Nat} {r : List SV} {G : List Cell} : Wk.ok ⟨ws, some n⟩ ⟨r, G⟩ ↔ G[n]? = some (.lst ws) := Iff.rfl
theorem forL_gen {R : Except Ex Fl → S → Prop} (I : Nat → S → Prop) (hok : ∀ i s, I i s → k.ok s) (hend : ∀ s, I ws.length s → R (.ok .nx) s)
    (h : ∀ (i : Nat) (hi : i < ws.length) (s : S), I i s → (∃ s', (b ws[i] s = some (.ok .nx, s') ∨ b ws[i] s = some (.ok .ct, s')) ∧ I (i + 1) s') ∨ (∃ s', b ws[i] s = some (.ok .bk, s') ∧ R (.ok .nx) s') ∨
      (∃ f s', b ws[i] s = some (.ok (.rt f), s') ∧ R (.ok (.rt f)) s') ∨ ∃ x s', b ws[i] s = some (.error x, s') ∧ R (.error x) s') :
    ∀ (n i : Nat) (s : S), n = ws.length - i → i ≤ ws.length → I i s → ∃ r s', forL k (ws.drop i) b s = some (r, s') ∧ R r s' := by
  intro n
  induction n with
  | zero =>
    intro i s hk hi hI
    have e : i = ws.length := by omega
    subst e
    rw [List.drop_length]
    exact ⟨_, _, if_pos (hok _ _ hI), hend s hI⟩
  | succ n ih =>
    intro i s hk hi hI
    have hlt : i < ws.length := by omega
    rw [drop_get hlt]
    unfold forL
    rw [if_pos (hok _ _ hI)]
    rcases h i hlt s hI with ⟨s', e | e, hI'⟩ | ⟨s', e, hR⟩ | ⟨f, s', e, hR⟩ | ⟨x, s', e, hR⟩
    · rw [bnd_at e]
      exact ih (i + 1) s' (by omega) (by omega) hI'
    · rw [bnd_at e]
      exact ih (i + 1) s' (by omega) (by omega) hI'
    · rw [bnd_at e]
      exact ⟨_, _, rfl, hR⟩
    · rw [bnd_at e]
      exact ⟨_, _, rfl, hR⟩
    · unfold bnd; rw [e]
      exact ⟨_, _, rfl, hR⟩
theorem forL_exitK {R : Except Ex Fl → S → Prop} (hF : forL k ws b s = F) (I : Nat → S → Prop) (hok : ∀ i s, I i s → k.ok s) (h0 : I 0 s) (hend : ∀ s, I ws.length s → R (.ok .nx) s)
    (h : ∀ (i : Nat) (hi : i < ws.length) (s : S), I i s → (∃ s', (b ws[i] s = some (.ok .nx, s') ∨ b ws[i] s = some (.ok .ct, s')) ∧ I (i + 1) s') ∨ (∃ s', b ws[i] s = some (.ok .bk, s') ∧ R (.ok .nx) s') ∨
      (∃ f s', b ws[i] s = some (.ok (.rt f), s') ∧ R (.ok (.rt f)) s') ∨ ∃ x s', b ws[i] s = some (.error x, s') ∧ R (.error x) s') : ∃ r s', F = some (r, s') ∧ R r s' := by
  have := forL_gen (k := k) I hok hend h ws.length 0 s (by simp) (Nat.zero_le _) h0
  rw [List.drop_zero, hF] at this
  exact this
theorem forL_atK (hF : forL k ws b s = F) (I : Nat → S → Prop) (hok : ∀ i s, I i s → k.ok s) (h0 : I 0 s) (h : ∀ (i : Nat) (hi : i < ws.length) (s : S), I i s → ∃ s', b ws[i] s = some (.ok .nx, s') ∧ I (i + 1) s') : ∃ s', F = some (.ok .nx, s') ∧ I ws.length s' := by
  obtain ⟨r, s', e, hr, hI⟩ := forL_exitK hF (R := fun r s' => r = .ok .nx ∧ I ws.length s') I hok h0 (fun s hI => ⟨rfl, hI⟩) (fun i hi s hI => .inl (let ⟨s', e, h'⟩ := h i hi s hI; ⟨s', .inl e, h'⟩))
  subst hr
  exact ⟨s', e, hI⟩
theorem forL_at (hF : forL ⟨ws0, none⟩ ws b s = F) (I : Nat → S → Prop) (h0 : I 0 s) (h : ∀ (i : Nat) (hi : i < ws.length) (s : S), I i s → ∃ s', b ws[i] s = some (.ok .nx, s') ∧ I (i + 1) s') : ∃ s', F = some (.ok .nx, s') ∧ I ws.length s' := forL_atK hF I (fun _ _ _ => trivial) h0 h
variable {γ : Type} {e : γ → W} {xs : List γ} {vs : List Nat} {t : W → Mo Unit} {tt : Mo Bool} {me : Mo RV}
theorem lc_pure (hk : k.ok s) (p : γ → Bool) (f : γ → W) : ∀ (xs : List γ) (acc : List W), (∀ x ∈ xs, ∃ s1, (bnd (t (e x)) fun _ => tt) s = some (.ok (p x), s1) ∧ (p x = true → ∃ s2, (bnd me fun y => freeze (settle y)) s1 = some (.ok (f x), s2) ∧ wipeS vs s2 = s) ∧ (p x = false → wipeS vs s1 = s)) →
    acc.length + xs.length ≤ sz → lcL vs t tt me k (xs.map e) acc s = some (.ok (.own (.lst (acc ++ (xs.filter p).map f))), s)
  | [], acc, _, _ => by
    simp only [List.map_nil, List.filter_nil, List.append_nil]
    unfold lcL
    exact if_pos hk
  | x :: xs, acc, h, hl => by
    obtain ⟨s1, e1, h1, h2⟩ := h x List.mem_cons_self
    have hr := fun y hy => h y (List.mem_cons_of_mem x hy)
    simp only [List.map_cons]
    unfold lcL
    rw [if_pos hk, e1]
    cases q : p x with
    | true =>
      obtain ⟨s2, e2, e3⟩ := h1 q
      simp only [e2]
      rw [if_pos (by simp at hl; omega), e3, lc_pure hk p f xs _ hr (by simp at hl ⊢; omega)]
      simp [List.filter_cons, q]
    | false =>
      simp only []
      rw [h2 q, lc_pure hk p f xs _ hr (by simp at hl ⊢; omega)]
      simp [List.filter_cons, q]
theorem lc_all (hk : k.ok s) (f : γ → W) (xs : List γ) (acc : List W) (h : ∀ x ∈ xs, ∃ s1, (bnd (t (e x)) fun _ => tt) s = some (.ok true, s1) ∧ ∃ s2, (bnd me fun y => freeze (settle y)) s1 = some (.ok (f x), s2) ∧ wipeS vs s2 = s) (hl : acc.length + xs.length ≤ sz) :
    lcL vs t tt me k (xs.map e) acc s = some (.ok (.own (.lst (acc ++ xs.map f))), s) := by
  have := lc_pure hk (vs := vs) (t := t) (tt := tt) (me := me) (e := e) (s := s) (fun _ => true) f xs acc (fun x hx => by
    obtain ⟨s1, e1, s2, e2, e3⟩ := h x hx
    exact ⟨s1, e1, fun _ => ⟨s2, e2, e3⟩, fun q => by cases q⟩) hl
  rwa [List.filter_eq_self.mpr fun _ _ => rfl] at this
theorem lc_inv (I : Nat → List W → S → Prop) (hok : ∀ i acc s, I i acc s → k.ok s) : ∀ (n i : Nat) (acc : List W) (s : S), n = ws.length - i → i ≤ ws.length → I i acc s → acc.length ≤ i → ws.length ≤ sz →
    (∀ (i : Nat) (hi : i < ws.length) (acc : List W) (s : S), I i acc s → ∃ b s1, (bnd (t ws[i]) fun _ => tt) s = some (.ok b, s1) ∧ (b = true → ∃ y s2, (bnd me fun y => freeze (settle y)) s1 = some (.ok y, s2) ∧ I (i + 1) (acc ++ [y]) (wipeS vs s2)) ∧ (b = false → I (i + 1) acc (wipeS vs s1))) →
    ∃ acc' s', lcL vs t tt me k (ws.drop i) acc s = some (.ok (.own (.lst acc')), s') ∧ I ws.length acc' s' ∧ acc'.length ≤ ws.length := by
  intro n
  induction n with
  | zero =>
    intro i acc s hn hi hI hl hz h
    have e : i = ws.length := by omega
    subst e
    rw [List.drop_length]
    unfold lcL
    exact ⟨acc, s, if_pos (hok _ _ _ hI), hI, hl⟩
  | succ n ih =>
    intro i acc s hn hi hI hl hz h
    have hlt : i < ws.length := by omega
    rw [drop_get hlt]
    unfold lcL
    rw [if_pos (hok _ _ _ hI)]
    obtain ⟨b, s1, e1, h1, h2⟩ := h i hlt acc s hI
    rw [e1]
    cases b with
    | true =>
      obtain ⟨y, s2, e2, h3⟩ := h1 rfl
      simp only [e2]
      rw [if_pos (by omega)]
      exact ih (i + 1) _ _ (by omega) (by omega) h3 (by simp; omega) hz h
    | false => exact ih (i + 1) _ _ (by omega) (by omega) (h2 rfl) (by omega) hz h
theorem lc_at {F : Option (Except Ex RV × S)} (hF : lcL vs t tt me k ws [] s = F) (I : Nat → List W → S → Prop) (hok : ∀ i acc s, I i acc s → k.ok s) (h0 : I 0 [] s) (hz : ws.length ≤ sz)
    (h : ∀ (i : Nat) (hi : i < ws.length) (acc : List W) (s : S), I i acc s → ∃ b s1, (bnd (t ws[i]) fun _ => tt) s = some (.ok b, s1) ∧ (b = true → ∃ y s2, (bnd me fun y => freeze (settle y)) s1 = some (.ok y, s2) ∧ I (i + 1) (acc ++ [y]) (wipeS vs s2)) ∧ (b = false → I (i + 1) acc (wipeS vs s1))) :
    ∃ acc' s', F = some (.ok (.own (.lst acc')), s') ∧ I ws.length acc' s' ∧ acc'.length ≤ ws.length := by
  have := lc_inv (k := k) I hok ws.length 0 [] s (by simp) (Nat.zero_le _) h0 (Nat.zero_le _) hz h
  rw [List.drop_zero, hF] at this
  exact this
theorem rng_map {lo : Int} {n : Nat} : rngW lo n = (List.range n).map fun (k : Nat) => W.int (lo + (k : Int)) := rfl
end
theorem toPDs_map {γ : Type} {e : γ → W} {g : γ → PyData} (h : ∀ x, toPD (e x) = some (g x)) : ∀ xs : List γ, toPDs (xs.map e) = some (xs.map g)
  | [] => rfl
  | x :: xs => by simp only [List.map_cons, toPDs, h x, toPDs_map h xs]
theorem eqvAll_map {γ : Type} [DecidableEq γ] {g : γ → PyData} (h : ∀ x y, PyData.eqv (g x) (g y) = decide (x = y)) : ∀ xs ys : List γ, PyData.eqvAll (xs.map g) (ys.map g) = decide (xs = ys)
  | [], [] => rfl
  | [], _ :: _ => rfl
  | _ :: _, [] => rfl
  | x :: xs, y :: ys => by
    simp only [List.map_cons, PyData.eqvAll, h, eqvAll_map h xs ys]
    by_cases h1 : x = y <;> by_cases h2 : xs = ys <;> simp [h1, h2]
theorem canAll_map {γ : Type} {g : γ → PyData} (h : ∀ x, (g x).canLay0 = true) : ∀ xs : List γ, PyData.canLayAll0 (xs.map g) = true
  | [] => rfl
  | x :: xs => by simp only [List.map_cons, PyData.canLayAll0, h x, canAll_map h xs, Bool.and_true]
structure Emb {γ : Type} [DecidableEq γ] (e : γ → W) (n : Nat) : Prop where
  ex : ∃ g : γ → PyData, (∀ x, toPD (e x) = some (g x)) ∧ (∀ x, (g x).canLay0 = true) ∧ (∀ x, (g x).depth ≤ n) ∧ ∀ x y, PyData.eqv (g x) (g y) = decide (x = y)
theorem depthAll_map {γ : Type} {g : γ → PyData} {n : Nat} (h : ∀ x, (g x).depth ≤ n) : ∀ xs : List γ, PyData.depthAll (xs.map g) ≤ n
  | [] => Nat.zero_le _
  | x :: xs => by simp only [List.map_cons, PyData.depthAll]; exact Nat.max_le.mpr ⟨h x, depthAll_map h xs⟩
section
variable {γ δ : Type} [DecidableEq γ] [DecidableEq δ] {e : γ → W} {e' : δ → W} {n m : Nat}
theorem emb_int : Emb W.int 0 := ⟨PyData.int, fun _ => rfl, fun _ => rfl, fun _ => Nat.le_refl _, fun x y => by
  show (x == y) = _
  by_cases h : x = y <;> simp [h]⟩
theorem emb_lst (h : Emb e n) : Emb (fun xs : List γ => W.lst (xs.map e)) (n + 1) := by
  obtain ⟨g, h1, h2, h3, h4⟩ := h.ex
  refine ⟨fun xs => .list (xs.map g), fun xs => ?_, fun xs => ?_, fun xs => ?_, fun xs ys => ?_⟩
  · simp only [toPD, toPDs_map h1, Option.map_some]
  · simp only [PyData.canLay0]; exact canAll_map h2 xs
  · simp only [PyData.depth]; exact Nat.succ_le_succ (depthAll_map h3 xs)
  · simp only [PyData.eqv]; exact eqvAll_map h4 xs ys
theorem emb_tup (h : Emb e n) : Emb (fun xs : List γ => W.tup (xs.map e)) (n + 1) := by
  obtain ⟨g, h1, h2, h3, h4⟩ := h.ex
  refine ⟨fun xs => .tuple (xs.map g), fun xs => ?_, fun xs => ?_, fun xs => ?_, fun xs ys => ?_⟩
  · simp only [toPD, toPDs_map h1, Option.map_some]
  · simp only [PyData.canLay0]; exact canAll_map h2 xs
  · simp only [PyData.depth]; exact Nat.succ_le_succ (depthAll_map h3 xs)
  · simp only [PyData.eqv]; exact eqvAll_map h4 xs ys
theorem shaped_of {d : PyData} (h1 : d.canLay0 = true) (h2 : d.depth ≤ 64) : SeqAt.shaped d = true := by
  unfold SeqAt.shaped
  rw [h1, decide_eq_true h2]; rfl
theorem eqP_emb (h : Emb e n) (hn : n ≤ 64) (x y : γ) : eqP (e x) (e y) = some (decide (x = y)) := by
  obtain ⟨g, h1, h2, h3, h4⟩ := h.ex
  unfold eqP
  simp only [h1]
  rw [if_pos ⟨shaped_of (h2 x) (Nat.le_trans (h3 x) hn), shaped_of (h2 y) (Nat.le_trans (h3 y) hn)⟩, h4]
theorem anyP_emb (h : Emb e n) (hn : n < 64) (x : γ) (xs : List γ) : anyP (e x) (xs.map e) = some (decide (x ∈ xs)) := by
  obtain ⟨g, h1, h2, h3, h4⟩ := h.ex
  unfold anyP
  rw [h1, toPDs_map h1]
  simp only []
  rw [if_pos ⟨shaped_of (h2 x) (Nat.le_trans (h3 x) (Nat.le_of_lt hn)), shaped_of (by simp only [PyData.canLay0]; exact canAll_map h2 xs) (by simp only [PyData.depth]; exact Nat.succ_le_of_lt (Nat.lt_of_le_of_lt (depthAll_map h3 xs) hn))⟩]
  congr 1
  rw [List.any_map]
  rw [Bool.eq_iff_iff]
  simp only [List.any_eq_true, Function.comp_apply, h4, decide_eq_true_eq]
  constructor
  · rintro ⟨y, hy, rfl⟩; exact hy
  · intro hx; exact ⟨x, hx, rfl⟩
theorem fEqD_emb (h : Emb e n) (hn : n ≤ 64) (x y : γ) : fEqD (e x) (e y) = some (.imm (.bl (decide (x = y)))) := by unfold fEqD; rw [eqP_emb h hn]; rfl
theorem fNeD_emb (h : Emb e n) (hn : n ≤ 64) (x y : γ) : fNeD (e x) (e y) = some (.imm (.bl (decide (x ≠ y)))) := by
  unfold fNeD; rw [eqP_emb h hn]
  by_cases q : x = y <;> simp [q]
theorem fIn_lst (h : Emb e n) (hn : n < 64) (neg : Bool) (x : γ) (xs : List γ) : fIn neg (e x) (.lst (xs.map e)) = some (.imm (.bl (decide (x ∈ xs) != neg))) := by
  show orf _ _ _ _ = _
  unfold orf
  rw [show fInL neg (e x) (.lst (xs.map e)) = some (.imm (.bl (decide (x ∈ xs) != neg))) from by
    show (anyP (e x) (xs.map e)).map _ = _
    rw [anyP_emb h hn]; rfl]
theorem toVs_ints : ∀ xs : List Int, toVs (xs.map W.int) = some (xs.map V.int)
  | [] => rfl
  | x :: xs => by simp only [List.map_cons, toVs, toV, toVs_ints xs]
theorem inV_ints (x : Int) : ∀ xs : List Int, inV (.int x) (xs.map V.int) = decide (x ∈ xs)
  | [] => rfl
  | y :: ys => by
    have := inV_ints x ys
    unfold inV at this ⊢
    simp only [List.map_cons, List.any_cons, this]
    show ((y == x) || _) = _
    by_cases h : y = x
    · subst h; simp
    · have h' : ¬ x = y := fun z => h z.symm
      simp [h, h']
theorem fIn_tupI (neg : Bool) (x : Int) (xs : List Int) : fIn neg (.int x) (.tup (xs.map W.int)) = some (.imm (.bl (decide (x ∈ xs) != neg))) := by
  show orf _ _ _ _ = _
  unfold orf
  rw [show fInL neg (.int x) (.tup (xs.map W.int)) = none from rfl]
  simp only []
  rw [show fInT neg (.int x) (.tup (xs.map W.int)) = some (.imm (.bl (decide (x ∈ xs) != neg))) from by
    unfold fInT; simp only [toV, toVs_ints, inV_ints]]
end
theorem fEqD_i (a b : Int) : fEqD (.int a) (.int b) = some (.imm (.bl (decide (a = b)))) := fEqD_emb emb_int (by decide) a b
theorem fNeD_i (a b : Int) : fNeD (.int a) (.int b) = some (.imm (.bl (decide (a ≠ b)))) := fNeD_emb emb_int (by decide) a b
theorem fIn_lI (neg : Bool) (x : Int) (xs : List Int) : fIn neg (.int x) (.lst (xs.map W.int)) = some (.imm (.bl (decide (x ∈ xs) != neg))) := fIn_lst emb_int (by decide) neg x xs
end Z
set_option Elab.async false
set_option linter.all false
set_option maxRecDepth 100000
namespace Z
open PySem PySem.Spec PyProof.Rows L2
def Nx (I : Nat → S → Prop) (R : Except Ex Fl → S → Prop) (i : Nat) : Except Ex Fl → S → Prop
  | .ok .nx, s => I (i + 1) s
  | .ok .ct, s => I (i + 1) s
  | .ok .bk, s => R (.ok .nx) s
  | r, s => R r s
section
variable {ws ws0 : List W} {k : Wk} {b : W → Mo Fl} {s : S} {F : Option (Except Ex Fl × S)} {I : Nat → S → Prop} {R : Except Ex Fl → S → Prop} {i : Nat}
@[simp] theorem nx_nx : Nx I R i (.ok .nx) s ↔ I (i + 1) s := Iff.rfl
@[simp] theorem nx_ct : Nx I R i (.ok .ct) s ↔ I (i + 1) s := Iff.rfl
@[simp] theorem nx_bk : Nx I R i (.ok .bk) s ↔ R (.ok .nx) s := Iff.rfl
@[simp] theorem nx_rt {f} : Nx I R i (.ok (.rt f)) s ↔ R (.ok (.rt f)) s := Iff.rfl
@[simp] theorem nx_er {x} : Nx I R i (.error x) s ↔ R (.error x) s := Iff.rfl
theorem forL_x (hF : forL k ws b s = F) (I : Nat → S → Prop) (R : Except Ex Fl → S → Prop) (hok : ∀ i s, I i s → k.ok s) (h0 : I 0 s) (hend : ∀ s, I ws.length s → R (.ok .nx) s)
    (h : ∀ (i : Nat) (hi : i < ws.length) (s : S), I i s → ∃ r s', b ws[i] s = some (r, s') ∧ Nx I R i r s') : ∃ r s', F = some (r, s') ∧ R r s' := forL_exitK hF (R := R) I hok h0 hend fun i hi s hI => by
  obtain ⟨r, s', e, hn⟩ := h i hi s hI
  match r, hn with
  | .ok .nx, hn => exact .inl ⟨s', .inl e, hn⟩
  | .ok .ct, hn => exact .inl ⟨s', .inr e, hn⟩
  | .ok .bk, hn => exact .inr (.inl ⟨s', e, hn⟩)
  | .ok (.rt f), hn => exact .inr (.inr (.inl ⟨f, s', e, hn⟩))
  | .error x, hn => exact .inr (.inr (.inr ⟨x, s', e, hn⟩))
end
end Z
set_option Elab.async false
set_option linter.all false
set_option maxRecDepth 100000
namespace Z
open PySem PySem.Spec PyProof.Rows L2
def Rl (a b : Int) : Prop := RgOk a b
noncomputable instance (a b : Int) : Decidable (Rl a b) := Classical.propDecidable _
noncomputable def fLr1 : W → Option OR
  | .int j => if Rl 0 j then some (.newl (rngW 0 j.toNat)) else none
  | _ => none
section
variable {K : PySem.W.Frag} {mg : Str → Option Value} {ea : EA} {io io' : List Addr} {Fr Fr' : Addr → Prop} {s s' s2 : S} {σ σ' : L2.St} {H H' : Hp} {w : W} {v : V} {c : Cell} {o : HO} {a p : Addr} {ws : List W} {vs : List V} {M : Addr → Prop}
variable {Wx : WX}
theorem rws_rng {lo hi : Int} : Rws K mg io M H (rngW lo (hi - lo).toNat) (rgV lo hi) := by
  refine ⟨by simp [rngW, rgV], fun i w v h1 h2 => ?_⟩
  have hi := get_lt h1
  simp only [rngW, List.length_map, List.length_range] at hi
  simp only [rngW, rgV, List.getElem?_map, List.getElem?_range hi, Option.map_some, Option.some.injEq] at h1 h2
  subst h1 h2
  exact .int _
theorem ref_lr1 {ta : TE} {m : Mo RV} (h : RefE K mg ea Wx ta m) : RefE K mg ea Wx (tLstRg (tRg1 ta)) (mUn fLr1 m) := by
  refine ref_un (r := fun x H Q => ∃ n, x = .int n ∧ RgOk 0 n ∧ ∀ q, H q = none → Q (.ref q) (upd H q (.lst (rgV 0 n)))) (fun io M H x vx z Q rx e q => ?_) h
  unfold fLr1 at e
  split at e
  · split at e
    · rename_i hz
      cases e
      have := rx.int
      subst this
      refine ⟨_, rfl, hz, fun p hp => q p _ hp ?_⟩
      have := rws_rng (K := K) (mg := mg) (io := io) (M := M) (H := H) (lo := 0) (hi := ‹Int›)
      simpa using this
    · cases e
  · cases e
theorem stp_upd {D : Addr} {o' : HO} (hD : M D) : Stp io M (fun _ => False) H io M (upd H D o') where
  p := ⟨fun b u e h => by rw [upd_ne (fun z => by subst z; exact h hD)]; exact e, fun b z => .inl z, fun _ _ e => e⟩
  fr := fun b z => z.elim
  trk := fun b u e => by
    by_cases h : b = D
    · exact ⟨o', by rw [h, upd_same]⟩
    · exact ⟨u, by rw [upd_ne h]; exact e⟩
noncomputable def lcB (vs : List Nat) (t : W → Mo Unit) (tt : Mo Bool) (me : Mo RV) (k : Wk) : List W → List W → S → Option (List W × S)
  | [], acc => fun s => if k.ok s then some (acc, s) else none
  | w :: ws, acc => fun s => if k.ok s then (match (bnd (t w) fun _ => tt) s with
    | some (.ok true, s1) => match (bnd me fun x => freeze (settle x)) s1 with
      | some (.ok y, s2) => if acc.length < sz then lcB vs t tt me k ws (acc ++ [y]) (wipeS vs s2) else none
      | _ => none
    | some (.ok false, s1) => lcB vs t tt me k ws acc (wipeS vs s1)
    | _ => none) else none
noncomputable def lcL2 (vs vs1 : List Nat) (t : W → Mo Unit) (tt : Mo Bool) (mi1 : Mo Wk) (t1 : W → Mo Unit) (tt1 : Mo Bool) (me : Mo RV) (k : Wk) : List W → List W → Mo RV
  | [], acc => fun s => if k.ok s then some (.ok (.own (.lst acc)), s) else none
  | w :: ws, acc => fun s => if k.ok s then (match (bnd (t w) fun _ => tt) s with
    | some (.ok true, s1) => match mi1 s1 with
      | some (.ok k1, s2) => match lcB vs1 t1 tt1 me k1 k1.ws acc (wipeS vs1 s2) with
        | some (acc', s3) => lcL2 vs vs1 t tt mi1 t1 tt1 me k ws acc' (wipeS vs s3)
        | none => none
      | _ => none
    | some (.ok false, s1) => lcL2 vs vs1 t tt mi1 t1 tt1 me k ws acc (wipeS vs s1)
    | _ => none) else none
noncomputable def mLc2 (vs vs1 : List Nat) (mi : Mo Wk) (t : W → Mo Unit) (tt : Mo Bool) (mi1 : Mo Wk) (t1 : W → Mo Unit) (tt1 : Mo Bool) (me : Mo RV) : Mo RV := bnd mi fun k => fun s => lcL2 vs vs1 t tt mi1 t1 tt1 me k k.ws [] (wipeS vs s)
theorem ref_lc2 {wi wi1 : TI} {g g1 : TG} {tt tt1 : TT} {te : TE} {mi mi1 : Mo Wk} {t t1 : W → Mo Unit} {mt mt1 : Mo Bool} {me : Mo RV} {l l1 vs vs1 : List Nat} (hi : RefI K mg ea Wx wi mi) (hg : RefG K mg ea g t l) (hl : ∀ i ∈ l, i ∈ vs) (ht : RefT K mg ea W0 tt mt)
    (hi1 : RefI K mg ea W0 wi1 mi1) (hg1 : RefG K mg ea g1 t1 l1) (hl1 : ∀ i ∈ l1, i ∈ vs1) (hv : ∀ i ∈ vs1, i ∈ vs) (ht1 : RefT K mg ea W0 tt1 mt1) (he : RefE K mg ea W0 te me) :
    RefE K mg ea Wx (tLc2 wi g tt wi1 g1 tt1 te vs vs1) (mLc2 vs vs1 mi t mt mi1 t1 mt1 me) := by
  intro σ H io Fr s S0 r0 s' e Q hok hex
  rcases bnd_some e with ⟨x, e1, rfl⟩ | ⟨kw, s1, e1, e2⟩
  · exact hi σ H io Fr s S0 _ _ e1 _ (fun _ q => by cases q) fun x' q cls d H' io' px => by
      cases q
      exact hex _ rfl cls d H' io' px
  · refine hi σ H io Fr s S0 _ _ e1 _ (fun kw' q J H1 io1 px G => ?_) (fun _ q => by cases q)
    cases q
    intro D hD
    obtain ⟨SD, TD, nD⟩ := px.1.alloc (o := .lst []) hD
    have nFD : ¬ Fr D := fun z => nD (.inl z)
    obtain ⟨SW, lW⟩ := SD.wiped (l := vs) (σ' := wipe σ vs) (wipe_length σ vs) fun j hj => (wipe_get (σ := σ)).1 hj
    have TW := TD.less lW
    refine ⟨fun i m H2 => m = kw.ws.length - i ∧ i ≤ kw.ws.length ∧ ∃ io2 s2 acc av, Sim K mg ea io2 (pls Fr D) s2 (wipe σ vs) H2 ∧ Stp io1 (Ms io1 Fr s1 σ) Fr H1 io2 (Ms io2 (pls Fr D) s2 (wipe σ vs)) H2 ∧
      H2 D = some (.lst av) ∧ Rws K mg io2 (Ms io2 (pls Fr D) s2 (wipe σ vs)) H2 acc av ∧ (∀ j, j ∈ vs → s2.r[j]? = some .non ∨ s2.r[j]? = none) ∧ lcL2 vs vs1 t mt mi1 t1 mt1 me kw (kw.ws.drop i) acc s2 = some (r0, s'),
      ⟨kw.ws.length, by simp, Nat.zero_le _, io1, wipeS vs s1, [], [], SW, TW, upd_same, Rws.nil, fun j hj => (wipeR_get (r := s1.r)).2 hj, by simpa using e2⟩, ?_⟩
    rintro i m H2 ⟨rfl, hle, io2, s2, acc, av, S2, T2, hA, RA, wn, e3⟩
    have ck : kw.ok s2 := by
      cases hd : kw.ws.drop i with
      | nil =>
        rw [hd] at e3; unfold lcL2 at e3; split at e3
        · assumption
        · cases e3
      | cons w ws =>
        rw [hd] at e3; unfold lcL2 at e3; split at e3
        · assumption
        · cases e3
    have cn := cn_of S2 ck
    by_cases hlt : i < kw.ws.length
    · refine .inr ⟨G.go _ _ _ T2.p cn i hlt, fun H3 => ∃ io3 s3 acc av, Sim K mg ea io3 (pls Fr D) s3 (wipe σ vs) H3 ∧ Stp io1 (Ms io1 Fr s1 σ) Fr H1 io3 (Ms io3 (pls Fr D) s3 (wipe σ vs)) H3 ∧
        H3 D = some (.lst av) ∧ Rws K mg io3 (Ms io3 (pls Fr D) s3 (wipe σ vs)) H3 acc av ∧ (∀ j, j ∈ vs → s3.r[j]? = some .non ∨ s3.r[j]? = none) ∧ lcL2 vs vs1 t mt mi1 t1 mt1 me kw (kw.ws.drop (i + 1)) acc s3 = some (r0, s'),
        fun H3 ⟨io3, s3, acc, av, a1, a2, a3, a4, a6, a5⟩ => ⟨kw.ws.length - (i + 1), by omega, rfl, hlt, io3, s3, acc, av, a1, a2, a3, a4, a6, a5⟩, fun x H3 y => ?_⟩
      rw [drop_get hlt] at e3
      have item : ∃ io3, Sim K mg ea io3 (pls Fr D) s2 (wipe σ vs) H3 ∧ Stp io2 (Ms io2 (pls Fr D) s2 (wipe σ vs)) (pls Fr D) H2 io3 (Ms io3 (pls Fr D) s2 (wipe σ vs)) H3 ∧ Rw K mg io3 (Ms io3 (pls Fr D) s2 (wipe σ vs)) H3 kw.ws[i] x := by
        rcases G.yld _ _ _ T2.p cn (fun a z => S2.trkN z) i x H3 y kw.ws[i] (by simp [hlt]) with ⟨rfl, r⟩ | ⟨p, us, ws', hp, rfl, hw, rfl, r⟩
        · exact ⟨io2, S2, .refl, r⟩
        · obtain ⟨S3, T3⟩ := S2.laid (o := .tup us) hp
          have r' := r.pers T3.p
          refine ⟨io2, S3, T3, ?_⟩
          rw [hw]
          refine .tup (.inl ⟨upd_same, fun z => ?_⟩) r'.1 r'.2
          obtain ⟨u, e⟩ := S2.trk z
          rw [hp] at e; cases e
      obtain ⟨io3, S3, T3, R3⟩ := item
      have T23 := T2.trans (T3.frless pls.sub)
      have hA3 : H3 D = some (.lst av) := (T3.fr D (.inr rfl)).trans hA
      have RA3 := RA.pers T3.p
      unfold lcL2 at e3
      rw [if_pos ck] at e3
      cases ex : (bnd (t kw.ws[i]) fun _ => mt) s2 with
      | none => rw [ex] at e3; cases e3
      | some pr =>
        obtain ⟨rb, s4⟩ := pr
        rw [ex] at e3
        rcases bnd_some ex with ⟨z, e5, rfl⟩ | ⟨_, s5, e5, e6⟩
        · have := hg.ne _ _ _ _ e5
          cases this
        · refine hg.go (wipe σ vs) H3 io3 (pls Fr D) s2 _ x S3 R3 _ _ e5 _ fun σ5 S5 l5 n5 k5 => ?_
          have k5' : ∀ j, j ∉ vs → σ5[j]? = (wipe σ vs)[j]? := fun j hj => k5 j fun z => hj (hl j z)
          have we : wipe σ5 vs = wipe σ vs := by rw [wipe_eq n5 k5', wipe_wipe]
          refine ⟨we, ?_⟩
          have T5 : Stp io3 (Ms io3 (pls Fr D) s2 (wipe σ vs)) (pls Fr D) H3 io3 (Ms io3 (pls Fr D) s5 σ5) H3 := Stp.refl.less l5
          have back : ∀ {s6 : S} {H6 : Hp} {io6 : List Addr}, Sim K mg ea io6 (pls Fr D) s6 σ5 H6 → Sim K mg ea io6 (pls Fr D) (wipeS vs s6) (wipe σ vs) H6 ∧ (∀ b, Ms io6 (pls Fr D) (wipeS vs s6) (wipe σ vs) b → Ms io6 (pls Fr D) s6 σ5 b) := fun S6 =>
            S6.wiped (by rw [n5]) fun j hj => (k5' j hj).symm
          have back1 : ∀ {s6 : S} {H6 : Hp} {io6 : List Addr}, Sim K mg ea io6 (pls Fr D) s6 (wipe σ5 vs1) H6 → Sim K mg ea io6 (pls Fr D) (wipeS vs s6) (wipe σ vs) H6 ∧ (∀ b, Ms io6 (pls Fr D) (wipeS vs s6) (wipe σ vs) b → Ms io6 (pls Fr D) s6 (wipe σ5 vs1) b) := fun S6 =>
            S6.wiped (by simp only [wipe_length, n5]) fun j hj => by rw [(wipe_get (σ := σ5)).1 fun z => hj (hv j z)]; exact (k5' j hj).symm
          cases rb with
          | error z => cases e3
          | ok b =>
            refine ht σ5 H3 io3 (pls Fr D) s5 S5 _ _ e6 _ (fun b' q H6 io6 p6 => ?_) fun z q => by cases q
            cases q
            have T36 := T23.trans ((T5.trans p6.2).frless pls.sub)
            have hA6 : H6 D = some (.lst av) := (p6.2.fr D (.inr rfl)).trans hA3
            have RA6 := (RA3.pers T5.p).pers p6.2.p
            cases b with
            | false =>
              rw [if_neg Bool.false_ne_true]
              obtain ⟨S7, l7⟩ := back p6.1
              exact ⟨io6, _, acc, av, S7, T36.less l7, hA6, RA6.pers (.less l7), fun j hj => (wipeR_get (r := s4.r)).2 hj, e3⟩
            | true =>
              rw [if_pos rfl]
              simp only at e3
              cases em : mi1 s4 with
              | none => rw [em] at e3; cases e3
              | some pr1 =>
                obtain ⟨rk, s6⟩ := pr1
                rw [em] at e3
                cases rk with
                | error z => cases e3
                | ok k1 =>
                  simp only at e3
                  cases eb : lcB vs1 t1 mt1 me k1 k1.ws acc (wipeS vs1 s6) with
                  | none => rw [eb] at e3; cases e3
                  | some pr2 =>
                    obtain ⟨accF, sF⟩ := pr2
                    rw [eb] at e3
                    simp only at e3
                    refine hi1 σ5 H6 io6 (pls Fr D) s4 p6.1 _ _ em _ (fun kw' q J1 H7 io7 p7 G1 => ?_) fun z q => by cases q
                    cases q
                    obtain ⟨S7, l7⟩ := p7.1.wiped (l := vs1) (σ' := wipe σ5 vs1) (wipe_length σ5 vs1) fun j hj => (wipe_get (σ := σ5)).1 hj
                    have T37 := T36.trans (p7.2.frless pls.sub)
                    have hA7 : H7 D = some (.lst av) := (p7.2.fr D (.inr rfl)).trans hA6
                    have RA7 := RA6.pers p7.2.p
                    refine ⟨fun j m H8 => m = k1.ws.length - j ∧ j ≤ k1.ws.length ∧ ∃ io8 s8 acc8 av8, Sim K mg ea io8 (pls Fr D) s8 (wipe σ5 vs1) H8 ∧ Stp io1 (Ms io1 Fr s1 σ) Fr H1 io8 (Ms io8 (pls Fr D) s8 (wipe σ5 vs1)) H8 ∧
                      Stp io7 (Ms io7 (pls Fr D) s6 σ5) (fun _ => False) H7 io8 (Ms io8 (pls Fr D) s8 (wipe σ5 vs1)) H8 ∧
                      H8 D = some (.lst av8) ∧ Rws K mg io8 (Ms io8 (pls Fr D) s8 (wipe σ5 vs1)) H8 acc8 av8 ∧ lcB vs1 t1 mt1 me k1 (k1.ws.drop j) acc8 s8 = some (accF, sF),
                      ⟨k1.ws.length, by simp, Nat.zero_le _, io7, wipeS vs1 s6, acc, av, S7, T37.less l7, Stp.refl.less l7, hA7, RA7.pers (.less l7), by simpa using eb⟩, ?_⟩
                    rintro j m H8 ⟨rfl, hle1, io8, s8, acc8, av8, S8, T8, T78, hA8, RA8, e8⟩
                    have ck1 : k1.ok s8 := by
                      cases hd : k1.ws.drop j with
                      | nil =>
                        rw [hd] at e8; unfold lcB at e8; split at e8
                        · assumption
                        · cases e8
                      | cons w ws =>
                        rw [hd] at e8; unfold lcB at e8; split at e8
                        · assumption
                        · cases e8
                    have cn1 := cn_of S8 ck1
                    by_cases hlt1 : j < k1.ws.length
                    · refine .inr ⟨G1.go _ _ _ T78.p cn1 j hlt1, fun H9 => ∃ io8 s8 acc8 av8, Sim K mg ea io8 (pls Fr D) s8 (wipe σ5 vs1) H9 ∧ Stp io1 (Ms io1 Fr s1 σ) Fr H1 io8 (Ms io8 (pls Fr D) s8 (wipe σ5 vs1)) H9 ∧
                        Stp io7 (Ms io7 (pls Fr D) s6 σ5) (fun _ => False) H7 io8 (Ms io8 (pls Fr D) s8 (wipe σ5 vs1)) H9 ∧
                        H9 D = some (.lst av8) ∧ Rws K mg io8 (Ms io8 (pls Fr D) s8 (wipe σ5 vs1)) H9 acc8 av8 ∧ lcB vs1 t1 mt1 me k1 (k1.ws.drop (j + 1)) acc8 s8 = some (accF, sF),
                        fun H9 ⟨io8, s8, acc8, av8, a1, a2, a3, a4, a5, a6⟩ => ⟨k1.ws.length - (j + 1), by omega, rfl, hlt1, io8, s8, acc8, av8, a1, a2, a3, a4, a5, a6⟩, fun x1 H9 y1 => ?_⟩
                      rw [drop_get hlt1] at e8
                      have item1 : ∃ io9, Sim K mg ea io9 (pls Fr D) s8 (wipe σ5 vs1) H9 ∧ Stp io8 (Ms io8 (pls Fr D) s8 (wipe σ5 vs1)) (pls Fr D) H8 io9 (Ms io9 (pls Fr D) s8 (wipe σ5 vs1)) H9 ∧ Rw K mg io9 (Ms io9 (pls Fr D) s8 (wipe σ5 vs1)) H9 k1.ws[j] x1 := by
                        rcases G1.yld _ _ _ T78.p cn1 (fun a z => S8.trkN z) j x1 H9 y1 k1.ws[j] (by simp [hlt1]) with ⟨rfl, r⟩ | ⟨p, us, ws', hp, rfl, hw, rfl, r⟩
                        · exact ⟨io8, S8, .refl, r⟩
                        · obtain ⟨S3, T3⟩ := S8.laid (o := .tup us) hp
                          have r' := r.pers T3.p
                          refine ⟨io8, S3, T3, ?_⟩
                          rw [hw]
                          refine .tup (.inl ⟨upd_same, fun z => ?_⟩) r'.1 r'.2
                          obtain ⟨u, e⟩ := S8.trk z
                          rw [hp] at e; cases e
                      obtain ⟨io9, S9, T9, R9⟩ := item1
                      have T19 := T8.trans (T9.frless pls.sub)
                      have T79 := T78.trans (T9.frless fun b z => z.elim)
                      have hA9 : H9 D = some (.lst av8) := (T9.fr D (.inr rfl)).trans hA8
                      have RA9 := RA8.pers T9.p
                      unfold lcB at e8
                      rw [if_pos ck1] at e8
                      cases ex1 : (bnd (t1 k1.ws[j]) fun _ => mt1) s8 with
                      | none => rw [ex1] at e8; cases e8
                      | some pr3 =>
                        obtain ⟨rb1, s10⟩ := pr3
                        rw [ex1] at e8
                        rcases bnd_some ex1 with ⟨z, e9, rfl⟩ | ⟨_, s11, e9, e10⟩
                        · have := hg1.ne _ _ _ _ e9
                          cases this
                        · refine hg1.go (wipe σ5 vs1) H9 io9 (pls Fr D) s8 _ x1 S9 R9 _ _ e9 _ fun σ6 S11 l11 n11 k11 => ?_
                          have k11' : ∀ j, j ∉ vs1 → σ6[j]? = (wipe σ5 vs1)[j]? := fun j hj => k11 j fun z => hj (hl1 j z)
                          have we1 : wipe σ6 vs1 = wipe σ5 vs1 := by rw [wipe_eq n11 k11', wipe_wipe]
                          refine ⟨we1, ?_⟩
                          have T11 : Stp io9 (Ms io9 (pls Fr D) s8 (wipe σ5 vs1)) (pls Fr D) H9 io9 (Ms io9 (pls Fr D) s11 σ6) H9 := Stp.refl.less l11
                          have back2 : ∀ {s6 : S} {H6 : Hp} {io6 : List Addr}, Sim K mg ea io6 (pls Fr D) s6 σ6 H6 → Sim K mg ea io6 (pls Fr D) (wipeS vs1 s6) (wipe σ5 vs1) H6 ∧ (∀ b, Ms io6 (pls Fr D) (wipeS vs1 s6) (wipe σ5 vs1) b → Ms io6 (pls Fr D) s6 σ6 b) := fun S6 =>
                            S6.wiped (by rw [n11]) fun j hj => (k11' j hj).symm
                          cases rb1 with
                          | error z => cases e8
                          | ok b1 =>
                            refine ht1 σ6 H9 io9 (pls Fr D) s11 S11 _ _ e10 _ (fun b' q H12 io12 p12 => ?_) fun z q => by cases q
                            cases q
                            have T12 := T11.trans p12.2
                            have T112 := T19.trans (T12.frless pls.sub)
                            have T712 := T79.trans (T12.frless fun b z => z.elim)
                            have hA12 : H12 D = some (.lst av8) := (T12.fr D (.inr rfl)).trans hA9
                            have RA12 := RA9.pers T12.p
                            cases b1 with
                            | false =>
                              rw [if_neg Bool.false_ne_true]
                              obtain ⟨S13, l13⟩ := back2 p12.1
                              exact ⟨io12, _, acc8, av8, S13, T112.less l13, T712.less l13, hA12, RA12.pers (.less l13), e8⟩
                            | true =>
                              rw [if_pos rfl]
                              simp only at e8
                              cases ey : (bnd me fun x => freeze (settle x)) s10 with
                              | none => rw [ey] at e8; cases e8
                              | some pr4 =>
                                obtain ⟨ry, s13⟩ := pr4
                                rw [ey] at e8
                                cases ry with
                                | error z => cases e8
                                | ok yv =>
                                  simp only at e8
                                  split at e8
                                  · rename_i hz
                                    refine one2 he p12.1 ey (fun x q => by cases q) fun xr v s14 H14 io14 e14 p14 => ?_
                                    obtain ⟨S14, T14, R14⟩ := p14.settled
                                    obtain ⟨_, l15, S15, w', q, R15⟩ := freeze_ok S14 R14 e14
                                    cases q
                                    have hA14 : H14 D = some (.lst av8) := (T14.fr D (.inr rfl)).trans hA12
                                    have RA14 := (RA12.pers T14.p).pers (.less l15)
                                    refine ⟨av8, hA14, by rw [sz_eq, ← RA14.1]; exact hz, ?_⟩
                                    have S16 := S15.updFr (o' := .lst (av8 ++ [v])) (.inr rfl) hA14
                                    obtain ⟨S17, l17⟩ := back2 S16
                                    have T17 : Stp io1 (Ms io1 Fr s1 σ) Fr H1 io14 (Ms io14 (pls Fr D) (wipeS vs1 s13) (wipe σ5 vs1)) (upd H14 D (.lst (av8 ++ [v]))) :=
                                      ((T112.trans ((T14.less l15).frless pls.sub)).updNew hD nFD hA14).less l17
                                    have T7b : Stp io7 (Ms io7 (pls Fr D) s6 σ5) (fun _ => False) H7 io14 (Ms io14 (pls Fr D) s13 σ6) H14 := T712.trans ((T14.less l15).frless fun b z => z.elim)
                                    have T7c : Stp io7 (Ms io7 (pls Fr D) s6 σ5) (fun _ => False) H7 io14 (Ms io14 (pls Fr D) (wipeS vs1 s13) (wipe σ5 vs1)) (upd H14 D (.lst (av8 ++ [v]))) := (T7b.trans (stp_upd (.inr (.inl (.inr rfl))))).less l17
                                    have PD : Pers io14 (Ms io14 (pls Fr D) s13 σ6) H14 io14 (Ms io14 (pls Fr D) (wipeS vs1 s13) (wipe σ5 vs1)) (upd H14 D (.lst (av8 ++ [v]))) :=
                                      ⟨fun b u e h => by rw [upd_ne (fun z => by subst z; exact h (.inr (.inl (.inr rfl))))]; exact e, fun b z => .inl (l17 b z), fun _ _ e => e⟩
                                    exact ⟨io14, _, acc8 ++ [yv], av8 ++ [v], S17, T17, T7c, upd_same, (RA14.append (Rws.one R15)).pers PD, e8⟩
                                  · cases e8
                    · have hi' : j = k1.ws.length := by omega
                      subst hi'
                      rw [List.drop_length] at e8
                      unfold lcB at e8
                      rw [if_pos ck1] at e8
                      cases e8
                      obtain ⟨S13, l13⟩ := back1 S8
                      exact .inl ⟨G1.stop _ _ _ T78.p cn1, io8, _, accF, av8, S13, T8.less l13, hA8, RA8.pers (.less l13), fun j hj => (wipeR_get (r := sF.r)).2 hj, e3⟩
    · have hi' : i = kw.ws.length := by omega
      subst hi'
      rw [List.drop_length] at e3
      unfold lcL2 at e3
      rw [if_pos ck] at e3
      cases e3
      refine .inl ⟨G.stop _ _ _ T2.p cn, hok _ rfl (.ref D) H2 io2 ?_⟩
      obtain ⟨S3, l3⟩ := S2.sub (r' := s'.r) (σ' := σ) (by rw [S2.len, wipe_length]) fun j => by
        by_cases hj : j ∈ vs
        · exact .inr (wn j hj)
        · exact .inl ⟨rfl, ((wipe_get (σ := σ)).1 hj).symm⟩
      refine ⟨D, .lst av, rfl, hA, fun z => ?_, S3, (px.2.trans T2).less l3, av, rfl, RA.pers (.less l3)⟩
      rcases z with z | ⟨j, c, h1, h2⟩
      · exact nFD z
      · obtain ⟨b, o, q1, _, _, q4⟩ := S3.own j c h1
        rw [h2] at q1
        cases q1
        exact q4 (.inr rfl)
end
section
variable {X : Cx} {ea : EA} {Wx : WX} {pos p p2 pos2 : Pos} {a b : Expr} {m m' : Mo RV}
def iOf (K : PySem.W.Frag) (mg : Str → Option Value) (ea : EA) (Wx : WX) (m : Mo Wk) : TI := fun σ H R => ∃ io Fr s r s', Sim K mg ea io Fr s σ H ∧ m s = some (r, s') ∧ (∀ k, r = .ok k → ∀ J H' io', PostS K mg ea io Fr s σ H s' σ io' H' → ItG K mg J k io' (Ms io' Fr s' σ) H' → R J H') ∧
  (∀ x, r = .error x → ∀ cls d H' io', PostX K mg ea io Fr s σ H s' σ io' H' x cls d → Wx cls d σ H')
theorem ref_iOf {K : PySem.W.Frag} {mg : Str → Option Value} (m : Mo Wk) : RefI K mg ea Wx (iOf K mg ea Wx m) m := fun σ H io Fr s S0 r s' e Q h1 h2 => ⟨io, Fr, s, r, s', S0, e, h1, h2⟩
theorem Pei.can {tg iter : Expr} {mi : Mo Wk} (h : Pei X ea Wx tg iter mi) : PI X tg iter (iOf X.K X.mg ea Wx mi) := by
  obtain ⟨wi, q, r⟩ := h.ex
  exact ⟨fun pins s σ H R I ⟨io, Fr, s1, r0, s', S0, e, h1, h2⟩ => q.run pins s σ H R I (r σ H io Fr s1 S0 r0 s' e R h1 h2)⟩
structure Blk2 (X : Cx) (ea : EA) (tg elt : Expr) (ifs : List Expr) (tg1 iter1 : Expr) (ifs1 : List Expr) (scope : Scope) (own : List (Str × Nat)) (vs1 : List Nat) (t : W → Mo Unit) (l : List Nat) (mt : Mo Bool) (mi1 : Mo Wk) (t1 : W → Mo Unit) (l1 : List Nat) (mt1 : Mo Bool) (me : Mo RV) : Prop where
  ok : BlkOk X.N X.env.scope scope own
  ne : ∀ w s r s', t w s = some (r, s') → r = .ok ()
  sub : ∀ i ∈ l, i ∈ own.map (·.2)
  ne1 : ∀ w s r s', t1 w s = some (r, s') → r = .ok ()
  sub1 : ∀ i ∈ l1, i ∈ vs1
  hv : ∀ i ∈ vs1, i ∈ own.map (·.2)
  tg : ∀ (s : Shared) (H : Hp) (C : Addr) (cl : List (Str × Addr)) (fp : List Addr), Peg (X.blk s H scope (compEnvC scope cl C X.env) fp) ea tg t l
  ts : ∀ (s : Shared) (H : Hp) (C : Addr) (cl : List (Str × Addr)) (fp : List Addr), Pets (X.blk s H scope (compEnvC scope cl C X.env) fp) ea W0 ifs mt
  it : ∀ (s : Shared) (H : Hp) (C : Addr) (cl : List (Str × Addr)) (fp : List Addr), Pei (X.blk s H scope (compEnvC scope cl C X.env) fp) ea W0 tg1 iter1 mi1
  tg1 : ∀ (s : Shared) (H : Hp) (C : Addr) (cl : List (Str × Addr)) (fp : List Addr), Peg (X.blk s H scope (compEnvC scope cl C X.env) fp) ea tg1 t1 l1
  ts1 : ∀ (s : Shared) (H : Hp) (C : Addr) (cl : List (Str × Addr)) (fp : List Addr), Pets (X.blk s H scope (compEnvC scope cl C X.env) fp) ea W0 ifs1 mt1
  el : ∀ (s : Shared) (H : Hp) (C : Addr) (cl : List (Str × Addr)) (fp : List Addr), Pee (X.blk s H scope (compEnvC scope cl C X.env) fp) ea W0 elt me
section
variable {tg elt tg1 iter iter1 : Expr} {ifs ifs1 : List Expr} {scope : Scope} {own : List (Str × Nat)} {vs1 : List Nat} {t : W → Mo Unit} {l : List Nat} {mt : Mo Bool} {mi mi1 : Mo Wk} {t1 : W → Mo Unit} {l1 : List Nat} {mt1 : Mo Bool} {me : Mo RV}
theorem Blk2.ref (b : Blk2 X ea tg elt ifs tg1 iter1 ifs1 scope own vs1 t l mt mi1 t1 l1 mt1 me) {wi : TI} (r : RefI X.K X.mg ea Wx wi mi) : RefE X.K X.mg ea Wx (tLc2 wi (gOf X.K X.mg ea t l) (ttOf X.K X.mg ea W0 mt) (iOf X.K X.mg ea W0 mi1) (gOf X.K X.mg ea t1 l1) (ttOf X.K X.mg ea W0 mt1) (tOf X.K X.mg ea W0 me) (own.map (·.2)) vs1) (mLc2 (own.map (·.2)) vs1 mi t mt mi1 t1 mt1 me) :=
  ref_lc2 r (ref_gOf b.ne) b.sub (ref_ttOf _) (ref_iOf _) (ref_gOf b.ne1) b.sub1 b.hv (ref_ttOf _) (ref_tOf _)
theorem pee_lc2 (hN : X.N.Nodup) (hi : Pei X ea Wx tg iter mi) (b : Blk2 X ea tg elt ifs tg1 iter1 ifs1 scope own vs1 t l mt mi1 t1 l1 mt1 me) (hc : X.calm = true := by rfl) (hs : ∀ x, foldedSetIterable iter X.env x = pure x := by intro _; rfl) (hs1 : ∀ env x, foldedSetIterable iter1 env x = pure x := by intro _ _; rfl) :
    Pee X ea Wx (.ListComp elt [⟨tg, iter, ifs, 0⟩, ⟨tg1, iter1, ifs1, 0⟩] scope pos) (mLc2 (own.map (·.2)) vs1 mi t mt mi1 t1 mt1 me) := by
  obtain ⟨wi, p, r⟩ := hi.ex
  exact ⟨_, pe_lc2 hc hN p b.ok b.hv (fun s H C cl fp => (b.tg s H C cl fp).can) (fun s H C cl fp => (b.ts s H C cl fp).can) (fun s H C cl fp => (b.it s H C cl fp).can) (fun s H C cl fp => (b.tg1 s H C cl fp).can) (fun s H C cl fp => (b.ts1 s H C cl fp).can) (fun s H C cl fp => (b.el s H C cl fp).can) hs hs1, b.ref r⟩
end
theorem pee_lr1 (hm : X.mg "list" = none) (hr : X.mg "range" = none) (h : Pee X ea Wx a m) (hc : X.calm = true := by rfl) (hg : Gl X "list" := by rfl) (hg2 : Gl X "range" := by rfl) (na : starEach [a] X.env = (false, eval a X.env) :: starEach [] X.env := by rfl)
    (nb : starEach [.Call (.Name "range" p2) [a] [] pos2] X.env = (false, eval (.Call (.Name "range" p2) [a] [] pos2) X.env) :: starEach [] X.env := by rfl) :
    Pee X ea Wx (.Call (.Name "list" p) [.Call (.Name "range" p2) [a] [] pos2] [] pos) (mUn fLr1 m) := let ⟨_, q, r⟩ := h.ex; ⟨_, pe_listRg hc hg hm (prg_1 hg2 hr q na) nb, ref_lr1 r⟩
end
end Z
set_option Elab.async false
set_option linter.all false
set_option maxRecDepth 100000
namespace Z
open PySem PySem.Spec PyProof.Rows L2
section
variable {r : List SV} {G : List Cell} {m ma mb me : Mo RV} {s : S} {vs vs1 : List Nat} {t t1 : W → Mo Unit} {tt tt1 : Mo Bool} {mi mi1 : Mo Wk} {k : Wk} {a b : Int}
@[simp] theorem mLc2_e : mLc2 vs vs1 mi t tt mi1 t1 tt1 me ⟨r, G⟩ = bnd mi (fun k s => lcL2 vs vs1 t tt mi1 t1 tt1 me k k.ws [] (wipeS vs s)) ⟨r, G⟩ := rfl
@[simp] theorem fLr1_i : fLr1 (.int a) = if Rl 0 a then some (.newl (rngW 0 a.toNat)) else none := rfl
theorem rl_nat {n : Nat} (h : n ≤ 1000000) : Rl 0 (n : Int) := by
  unfold Rl RgOk
  omega
theorem rl_le {i j : Int} (h1 : 0 ≤ i) (h2 : j ≤ 1000000) (h3 : i ≤ 1000000) (h4 : 0 ≤ j) : Rl i j := by
  unfold Rl RgOk
  omega
variable {γ δ : Type} {e : γ → W} {e1 : δ → W}
theorem lcB_pure (hk : k.ok s) (p : γ → Bool) (f : γ → W) : ∀ (xs : List γ) (acc : List W), (∀ x ∈ xs, ∃ s1, (bnd (t (e x)) fun _ => tt) s = some (.ok (p x), s1) ∧ (p x = true → ∃ s2, (bnd me fun y => freeze (settle y)) s1 = some (.ok (f x), s2) ∧ wipeS vs s2 = s) ∧ (p x = false → wipeS vs s1 = s)) →
    acc.length + xs.length ≤ sz → lcB vs t tt me k (xs.map e) acc s = some (acc ++ (xs.filter p).map f, s)
  | [], acc, _, _ => by
    simp only [List.map_nil, List.filter_nil, List.append_nil]
    unfold lcB
    exact if_pos hk
  | x :: xs, acc, h, hl => by
    obtain ⟨s1, e1, h1, h2⟩ := h x List.mem_cons_self
    have hr := fun y hy => h y (List.mem_cons_of_mem x hy)
    simp only [List.map_cons]
    unfold lcB
    rw [if_pos hk, e1]
    cases q : p x with
    | true =>
      obtain ⟨s2, e2, e3⟩ := h1 q
      simp only [e2]
      rw [if_pos (by simp at hl; omega), e3, lcB_pure hk p f xs _ hr (by simp at hl ⊢; omega)]
      simp [List.filter_cons, q]
    | false =>
      simp only []
      rw [h2 q, lcB_pure hk p f xs _ hr (by simp at hl ⊢; omega)]
      simp [List.filter_cons, q]
theorem lc2_pure (hk : k.ok s) (ys : γ → List δ) (p : γ → δ → Bool) (f : γ → δ → W) : ∀ (xs : List γ) (acc : List W), (∀ x ∈ xs, ∃ s1, (bnd (t (e x)) fun _ => tt) s = some (.ok true, s1) ∧ ∃ k1 s2, mi1 s1 = some (.ok k1, s2) ∧ k1.ws = (ys x).map e1 ∧ k1.ok (wipeS vs1 s2) ∧ wipeS vs (wipeS vs1 s2) = s ∧
      ∀ y ∈ ys x, ∃ s4, (bnd (t1 (e1 y)) fun _ => tt1) (wipeS vs1 s2) = some (.ok (p x y), s4) ∧ (p x y = true → ∃ s5, (bnd me fun y => freeze (settle y)) s4 = some (.ok (f x y), s5) ∧ wipeS vs1 s5 = wipeS vs1 s2) ∧ (p x y = false → wipeS vs1 s4 = wipeS vs1 s2)) →
    acc.length + (xs.map fun x => (ys x).length).sum ≤ sz → lcL2 vs vs1 t tt mi1 t1 tt1 me k (xs.map e) acc s = some (.ok (.own (.lst (acc ++ xs.flatMap fun x => ((ys x).filter (p x)).map (f x)))), s)
  | [], acc, _, _ => by
    simp only [List.map_nil, List.flatMap_nil, List.append_nil]
    unfold lcL2
    exact if_pos hk
  | x :: xs, acc, h, hl => by
    obtain ⟨s1, q1, k1, s2, q2, q3, q4, q5, q6⟩ := h x List.mem_cons_self
    have hr := fun y hy => h y (List.mem_cons_of_mem x hy)
    simp only [List.map_cons]
    unfold lcL2
    rw [if_pos hk, q1]
    simp only [q2, q3]
    simp only [List.map_cons, List.sum_cons] at hl
    have hf : ((ys x).filter (p x)).length ≤ (ys x).length := List.length_filter_le _ _
    rw [lcB_pure q4 (p x) (f x) (ys x) acc q6 (by omega)]
    simp only []
    rw [q5, lc2_pure hk ys p f xs _ hr (by simp; omega)]
    simp
end
def outF : Option (Except Ex Fl × S) → Option (Except Ex FV × List Cell)
  | some (.ok (.rt f), s) => some (.ok f, s.G)
  | some (.ok .nx, s) => some (.ok (.val .non), s.G)
  | some (.error x, s) => some (.error x, s.G)
  | _ => none
theorem fnM_o {n : Nat} {body : Mo Fl} {ws : List W} {G : List Cell} : fnM n body ws G = outF (body ⟨ws.map SV.val ++ List.replicate (n - ws.length) SV.non, G⟩) := rfl
@[simp] theorem outF_rt {f : FV} {s : S} : outF (some (.ok (.rt f), s)) = some (.ok f, s.G) := rfl
@[simp] theorem outF_nx {s : S} : outF (some (.ok .nx, s)) = some (.ok (.val .non), s.G) := rfl
@[simp] theorem outF_er {x : Ex} {s : S} : outF (some (.error x, s)) = some (.error x, s.G) := rfl
end Z
set_option Elab.async false
set_option linter.all false
set_option maxRecDepth 100000
namespace Z
open PySem PySem.Spec PyProof.Rows L2
def turnSem (tg : Expr) (pos : Pos) (cs : List Expr) (src : Value) (en : Env) (inner : Sem Fin → Sem Fin) (ag : Sem Fin) : Sem Fin := do
  standAt pos
  match ← pyNext src with
  | none => pure (.done .next)
  | some item =>
    letOwnedTupleGo tg src item
    assign tg en item
    let mut fine := true
    for c in cs do if fine then fine ← isTrue c en (eval c en)
    if fine then inner ag else ag
def clauseSem (ex : Expr) (d : Nat) (src : Expr) (acc : Value) (en : Env) (ag : Sem Fin) : Sem Fin := do
  let y ← eval src en
  standAt src.pos
  let y ← foldedSetIterable src en y
  let _ ← runOwn (.compStart ex d (← holding [y] (pyIter y)) acc en) en
  ag
def putSem (ke ve : Expr) (D : Addr) (en : Env) : Sem Unit := do
  let a ← eval ke en
  let b ← holding [a] (eval ve en)
  standAt { ke.pos with endLine := ve.pos.endLine, endCol := ve.pos.endCol }
  holding [a, b] (dictSet D a b)
def putThen (ke ve : Expr) (D : Addr) (en : Env) (ag : Sem Fin) : Sem Fin := do
  putSem ke ve D en
  ag
def startSem (ex : Expr) (d : Nat) (p : Pos) (src acc : Value) (en : Env) : Sem Fin := do
  if (← ask).params.followText "comprehension-iter-twice" then return ← again (.compLoop ex d src acc en)
  rule "comprehension.iter-twice"
  standAt p
  again (.compLoop ex d (← pyIter src) acc en)
section
variable {ke ve t0 i0 t1 i1 t2 i2 : Expr} {f0 f1 f2 : List Expr} {sc : Scope} {pos : Pos} {src acc : Value} {D : Addr} {en : Env}
theorem turn_10 : compTurn (.DictComp ke ve [⟨t0, i0, f0, 0⟩] sc pos) 0 src (.ref D) en = turnSem t0 i0.pos f0 src en (putThen ke ve D en) (again (.compLoop (.DictComp ke ve [⟨t0, i0, f0, 0⟩] sc pos) 0 src (.ref D) en)) := by rfl
theorem turn_30 : compTurn (.DictComp ke ve [⟨t0, i0, f0, 0⟩, ⟨t1, i1, f1, 0⟩, ⟨t2, i2, f2, 0⟩] sc pos) 0 src (.ref D) en = turnSem t0 i0.pos f0 src en (clauseSem (.DictComp ke ve [⟨t0, i0, f0, 0⟩, ⟨t1, i1, f1, 0⟩, ⟨t2, i2, f2, 0⟩] sc pos) 1 i1 (.ref D) en) (again (.compLoop (.DictComp ke ve [⟨t0, i0, f0, 0⟩, ⟨t1, i1, f1, 0⟩, ⟨t2, i2, f2, 0⟩] sc pos) 0 src (.ref D) en)) := by rfl
theorem turn_31 : compTurn (.DictComp ke ve [⟨t0, i0, f0, 0⟩, ⟨t1, i1, f1, 0⟩, ⟨t2, i2, f2, 0⟩] sc pos) 1 src (.ref D) en = turnSem t1 i1.pos f1 src en (clauseSem (.DictComp ke ve [⟨t0, i0, f0, 0⟩, ⟨t1, i1, f1, 0⟩, ⟨t2, i2, f2, 0⟩] sc pos) 2 i2 (.ref D) en) (again (.compLoop (.DictComp ke ve [⟨t0, i0, f0, 0⟩, ⟨t1, i1, f1, 0⟩, ⟨t2, i2, f2, 0⟩] sc pos) 1 src (.ref D) en)) := by rfl
theorem turn_32 : compTurn (.DictComp ke ve [⟨t0, i0, f0, 0⟩, ⟨t1, i1, f1, 0⟩, ⟨t2, i2, f2, 0⟩] sc pos) 2 src (.ref D) en = turnSem t2 i2.pos f2 src en (putThen ke ve D en) (again (.compLoop (.DictComp ke ve [⟨t0, i0, f0, 0⟩, ⟨t1, i1, f1, 0⟩, ⟨t2, i2, f2, 0⟩] sc pos) 2 src (.ref D) en)) := by rfl
theorem start_31 : compStart (.DictComp ke ve [⟨t0, i0, f0, 0⟩, ⟨t1, i1, f1, 0⟩, ⟨t2, i2, f2, 0⟩] sc pos) 1 src acc en = startSem (.DictComp ke ve [⟨t0, i0, f0, 0⟩, ⟨t1, i1, f1, 0⟩, ⟨t2, i2, f2, 0⟩] sc pos) 1 i1.pos src acc en := by rfl
theorem start_32 : compStart (.DictComp ke ve [⟨t0, i0, f0, 0⟩, ⟨t1, i1, f1, 0⟩, ⟨t2, i2, f2, 0⟩] sc pos) 2 src acc en = startSem (.DictComp ke ve [⟨t0, i0, f0, 0⟩, ⟨t1, i1, f1, 0⟩, ⟨t2, i2, f2, 0⟩] sc pos) 2 i2.pos src acc en := by rfl
end
abbrev TB := L2.St → Hp → (Hp → Prop) → Prop
def Clean (L : List Nat) (σ : L2.St) : Prop := ∀ j ∈ L, ∀ v, σ[j]? ≠ some (some v)
structure PB (X : Cx) (inner : Sem Fin → Sem Fin) (L : List Nat) (t : TB) : Prop where
  run : ∀ (pl : List (Addr × Obj)) (s : Shared) (σ : L2.St) (H : Hp) (N : Hp → Prop), Inv X pl σ H s → Clean L σ → t σ H N → ∀ (k : Sem Fin) (Q : Fin → Shared → Prop) (E : Value → Shared → Prop),
    (∀ s' H', Inv X pl σ H' s' → N H' → wpAny (model X.prog X.w) X.A k Q E s') → wpAny (model X.prog X.w) X.A (inner k) Q E s
def tPut (tk tv : TE) (D : Addr) : TB := fun σ H N => tk σ H fun y H1 => tv σ H1 fun z H2 => ∃ kvs ks b, y = .ref b ∧ H2 b = some (.tup (ks.map kV)) ∧ H2 D = some (.dT kvs) ∧ kvs.length < sizeLine ∧ N (upd H2 D (.dT (putK kvs ks z)))
def tLoop (J : It) (g : TG) (tt : TT) (vs : List Nat) (tb : TB) : TB := fun σ H N => ∃ Wn : Nat → Nat → Hp → Prop, (∃ m, Wn 0 m H) ∧ ∀ i m H, Wn i m H → (J.stop i H ∧ N H) ∨ (J.go i H ∧ ∃ N1 : Hp → Prop, (∀ H', N1 H' → ∃ m', m' < m ∧ Wn (i + 1) m' H') ∧
  ∀ x H', J.yld i H x H' → g x (wipe σ vs) H' fun σ2 H2 => wipe σ2 vs = wipe σ vs ∧ tt σ2 H2 fun b H3 => if b = true then tb σ2 H3 N1 else N1 H3)
section
variable {X : Cx}
theorem put_tup {pl : List (Addr × Obj)} {σ : L2.St} {H : Hp} {s : Shared} {D b : Addr} {kvs : List (List Key × V)} {ks : List Key} {v : V} {r : Value} {Q : Unit → Shared → Prop} {E : Value → Shared → Prop} (hu : X.A.units < cLine) (I : Inv X pl σ H s) (eD : H D = some (.dT kvs)) (eb : H b = some (.tup (ks.map kV)))
    (hz : kvs.length < sizeLine) (rv : RelV v r) (nx : ∀ s', Inv X pl σ (upd H D (.dT (putK kvs ks v))) s' → Q () s') : wpAny (model X.prog X.w) X.A (dictSet D (.ref b) r) Q E s := by
  obtain ⟨z1, z2, zs, rl, rd⟩ := dt_of I.hok eD
  have z3 : zs.length ≤ sizeLine := by
    have := Paired.length rl
    omega
  refine wpAny_dictSet_heap (hsz := z3) hu (key_of I.hok eb) rd fun hp2 rd2 same => nx _ ?_
  obtain ⟨o2, es2, ep2, g1, g2, g3, g4, _, g5⟩ := rd2
  have lp := length_putK kvs ks v
  have kp : ∀ c ys, H c = some (.tup ys) → upd H D (.dT (putK kvs ks v)) c = some (.tup ys) := fun c ys ec => by
    rw [upd_ne fun z => by subst z; rw [eD] at ec; cases ec]
    exact ec
  exact d_write I (by rw [eD]; trivial) same ⟨o2, g1⟩ ⟨by omega, z2, _, (rl.put ks eb rv).keeps kp, o2, es2, ep2, g1, g2, g3, g4, g5⟩
theorem pb_put {ke ve : Expr} {tk tv : TE} {D : Addr} (hx : ∀ v s, X.xe v s → False) (hu : X.A.units < cLine) (pk : PE X ke tk) (pv : PE X ve tv) : PB X (putThen ke ve D X.env) [] (tPut tk tv D) := by
  refine ⟨fun pl s σ H N I _ h k Q E hk => ?_⟩
  unfold putThen putSem
  refine wpAny_bind (wpAny_bind (wpAny_mono (pk.run pl s σ H _ I h) (fun a s1 ⟨y, H1, I1, r1, q1⟩ => wpAny_bind (wpAny_holding (wpAny_mono (pv.run pl s1 σ H1 _ I1 q1) (fun b s2 ⟨z, H2, I2, r2, q2⟩ => ?_) fun _ _ z => (hx _ _ z).elim))) fun _ _ z => (hx _ _ z).elim))
  obtain ⟨kvs, ks, bb, rfl, e1, e2, e3, nx⟩ := q2
  cases (show a = Value.ref bb from r1)
  exact wpAny_bind (wpAny_standAt (wpAny_holding (put_tup hu I2 e2 e1 e3 r2 fun s3 I3 => hk s3 _ I3 nx)))
theorem clean_of {L vs : List Nat} {σ σ4 : L2.St} (dj : ∀ i ∈ L, i ∉ vs) (c : Clean L σ) (hw : wipe σ4 vs = wipe σ vs) : Clean L σ4 := fun j hj v e => by
  have h1 := (wipe_get (σ := σ4) (l := vs) (i := j)).1 (dj j hj)
  have h2 := (wipe_get (σ := σ) (l := vs) (i := j)).1 (dj j hj)
  rw [hw, h2] at h1
  exact c j hj v (h1.trans e)
variable {ke ve tg : Expr} {gens : List Comprehension} {sc : Scope} {pos p : Pos} {d : Nat} {D : Addr} {cs : List Expr} {inner : Sem Fin → Sem Fin} {g : TG} {tt : TT} {tb : TB} {vs L : List Nat}
theorem loop_ok {J : It} {fp : List Addr} {tn : Nat → Heap → Prop} {it : Addr} (hx : ∀ v s, X.xe v s → False) (hc : X.calm = true)
    (turn : ∀ v, compTurn (.DictComp ke ve gens sc pos) d v (.ref D) X.env = turnSem tg p cs v X.env inner (again (.compLoop (.DictComp ke ve gens sc pos) d v (.ref D) X.env)))
    (pg : PG X tg g) (pt : PTs X cs tt) (pb : PB X inner L tb) (dj : ∀ i ∈ L, i ∉ vs) (T : Turn X.prog X.w X.K tg J fp it tn) {pl : List (Addr × Obj)} {σ : L2.St} {s : Shared} {H : Hp} {N : Hp → Prop} {R : Result → Shared → Prop} (I : Inv X pl (wipe σ vs) H s) (cl : Clean L σ)
    (st : tn 0 s.heap) (nf : ∀ b ∈ fp, H b = none) (sf : ∀ b ∈ fp, ∀ H', H' b = none → FpOk X pl H' b) (h : tLoop J g tt vs tb σ H N) (hR : ∀ s' H', Inv X pl (wipe σ vs) H' s' → N H' → R (.ok .next) s') :
    codeAny (model X.prog X.w) X.A (.compLoop (.DictComp ke ve gens sc pos) d (.ref it) (.ref D) X.env) R s := by
  obtain ⟨Wn, ⟨m0, w0⟩, stp⟩ := h
  refine codeAny_loop rfl (fun n s' => ∃ i H', Inv X pl (wipe σ vs) H' s' ∧ tn i s'.heap ∧ (∀ b ∈ fp, H' b = none) ∧ Wn i n H') (fun n s1 hI => ?_) m0 ⟨0, H, I, st, nf, w0⟩
  show wpAny _ X.A ((compTurn (.DictComp ke ve gens sc pos) d (.ref it) (.ref D) X.env).onRaise (fun x => do noteFrame x X.env; theTreesLotGoes x)) _ _ s1
  refine wpAny_noted ?_
  rw [turn]
  unfold turnSem
  obtain ⟨i, H1, I1, st1, nf1, w1⟩ := hI
  rcases stp i n H1 w1 with ⟨stop, nx⟩ | ⟨go, N1, hN, step⟩
  · refine wpAny_bind (wpAny_standAt (wpAny_bind (wpAny_mono (T.done X rfl rfl rfl hc i pl s1 _ H1 (fun _ _ => False) I1 (fun b hb => sf b hb _ (nf1 b hb)) st1 stop) (fun r s2 ⟨hr, I2⟩ => ?_) fun _ _ z => z.elim)))
    subst hr
    exact wpAny_pure (hR _ _ I2 nx)
  · refine wpAny_bind (wpAny_standAt (wpAny_bind (wpAny_mono (T.item X rfl rfl rfl hc i pl s1 _ H1 (fun _ _ => False) I1 (fun b hb => sf b hb _ (nf1 b hb)) st1 go) (fun r s2 ⟨u, hr, h2⟩ => ?_) fun _ _ z => z.elim)))
    subst hr
    refine wpAny_bind (wpAny_mono h2 (fun _ s3 ⟨x, H3, I3, rx, y3, st3, nf3⟩ => ?_) fun _ _ z => z.elim)
    have I3' := I3.pinned (fun b hb => sf b hb _ (nf3 b hb)) (T.obj _ _ st3)
    refine wpAny_bind (wpAny_mono (pg.run _ s3 _ H3 x u _ I3' rx (step x H3 y3)) (fun _ s4 ⟨σ4, H4, I4, hw, q4⟩ => ?_) fun _ _ z => (hx _ _ z).elim)
    refine wpAny_bind (wpAny_mono (pt.run _ s4 σ4 H4 _ I4 q4) (fun b s5 ⟨H5, I5, q5⟩ => ?_) fun _ _ z => (hx _ _ z).elim)
    have fin : ∀ s' H', Inv X (pl ++ pinsAt fp s3.heap) σ4 H' s' → N1 H' → ∃ m, m < n ∧ ∃ i H', Inv X pl (wipe σ vs) H' s' ∧ tn i s'.heap ∧ (∀ b ∈ fp, H' b = none) ∧ Wn i m H' := fun s' H' I' nx => by
      obtain ⟨m', hm, w'⟩ := hN H' nx
      have stay : ∀ b ∈ fp, ∀ o, s3.heap.get? b = some o → s'.heap.get? b = some o ∧ H' b = none := fun b hb o e => by
        have := I'.pin (b, o) (List.mem_append_right _ (List.mem_append_right _ (mem_pinsAt hb e)))
        exact ⟨this.1, this.2.1⟩
      refine ⟨m', hm, i + 1, H', I'.unpinned.weak (by rw [← hw, wipe_length]) (fun j v e => ?_), T.keep _ _ _ st3 fun b hb o e => (stay b hb o e).1, fun b hb => ?_, w'⟩
      · rw [← hw] at e
        exact (wipe_some e).1
      · obtain ⟨o, e, _⟩ := T.obj _ _ st3 b hb
        exact (stay b hb o e).2
    cases b with
    | false =>
      rw [if_neg Bool.false_ne_true] at q5 ⊢
      exact wpAny_pure ⟨rfl, fin s5 H5 I5 q5⟩
    | true =>
      rw [if_pos rfl] at q5 ⊢
      exact pb.run _ s5 σ4 H5 N1 I5 (clean_of dj cl hw) q5 _ _ _ fun s6 H6 I6 nx => wpAny_pure ⟨rfl, fin s6 H6 I6 nx⟩
theorem start_ok {src : Addr} {R : Result → Shared → Prop} {s : Shared} (start : ∀ v, compStart (.DictComp ke ve gens sc pos) d v (.ref D) X.env = startSem (.DictComp ke ve gens sc pos) d p v (.ref D) X.env)
    (h : codeAny (model X.prog X.w) X.A (.compLoop (.DictComp ke ve gens sc pos) d (.ref src) (.ref D) X.env) R s) (hi : ∀ (Q : Value → Shared → Prop) (E : Value → Shared → Prop), Q (.ref src) s → wpAny (model X.prog X.w) X.A (pyIter (.ref src)) Q E s) :
    codeAny (model X.prog X.w) X.A (.compStart (.DictComp ke ve gens sc pos) d (.ref src) (.ref D) X.env) R s := by
  refine codeAny_of_tree ?_
  show wpAny _ _ ((compStart (.DictComp ke ve gens sc pos) d (.ref src) (.ref D) X.env).onRaise (fun x => do noteFrame x X.env; standAt theWindowsPlace)) _ _ s
  refine wpAny_notedAt ?_
  rw [start]
  unfold startSem
  refine wpAny_bind (wpAny_askSetting (wpAny_ite ?_))
  split
  · first | exact wpAny_bind (wpAny_pure (wpAny_pure ⟨rfl, h⟩)) | exact wpAny_pure ⟨rfl, h⟩
  · exact wpAny_bind (wpAny_rule (wpAny_bind (wpAny_standAt (wpAny_bind (hi _ _ (wpAny_pure ⟨rfl, h⟩))))))
def tClause (wi : TI) (g : TG) (tt : TT) (vs : List Nat) (tb : TB) : TB := fun σ H N => wi σ H fun J H1 => tLoop J g tt vs tb σ H1 N
theorem pb_clause {src : Expr} {wi : TI} (hx : ∀ v s, X.xe v s → False) (hc : X.calm = true)
    (turn : ∀ v, compTurn (.DictComp ke ve gens sc pos) d v (.ref D) X.env = turnSem tg p cs v X.env inner (again (.compLoop (.DictComp ke ve gens sc pos) d v (.ref D) X.env)))
    (start : ∀ v, compStart (.DictComp ke ve gens sc pos) d v (.ref D) X.env = startSem (.DictComp ke ve gens sc pos) d p v (.ref D) X.env) (hs : ∀ y, foldedSetIterable src X.env y = pure y) (hi : PI X tg src wi) (pg : PG X tg g) (pt : PTs X cs tt) (pb : PB X inner L tb) (dj : ∀ i ∈ L, i ∉ vs) :
    PB X (clauseSem (.DictComp ke ve gens sc pos) d src (.ref D) X.env) (vs ++ L) (tClause wi g tt vs tb) := by
  refine ⟨fun pl s σ H N I cl h k Q E hk => ?_⟩
  unfold clauseSem
  refine wpAny_bind (wpAny_mono (hi.run pl s σ H _ I h) (fun y s1 h1 => ?_) fun _ _ z => (hx _ _ z).elim)
  refine wpAny_bind (wpAny_standAt (wpAny_bind (wpAny_of_eq (hs y) (wpAny_bind (wpAny_holding (wpAny_mono h1 (fun itv s2 h2 => ?_) fun _ _ z => (hx _ _ z).elim))))))
  obtain ⟨it, fp, tn, J, H2, rfl, I2, T, st2, f2, q⟩ := h2
  refine wpAny_bind (wpAny_runOwn ?_)
  rw [Around.mark_none]
  have lp := loop_ok (R := fun r s' => match r with
    | .ok _ => ∃ H', Inv X pl (wipe σ vs) H' s' ∧ N H'
    | .error _ => False) hx hc turn pg pt pb dj T (I2.weak (wipe_length _ _) (fun j v e => (wipe_some e).1)) (fun j hj => cl j (List.mem_append_right _ hj)) st2 (fun b hb => (f2 b hb).1) (fun b hb H' e => ⟨e, (f2 b hb).2⟩) q (fun s' H' I' nx => ⟨H', I', nx⟩)
  refine codeAny_mono (start_ok start lp fun Q E hq => T.self X.A 0 _ _ _ st2 hq) fun r s3 hr => ?_
  cases r with
  | error z => exact hr.elim
  | ok f =>
    obtain ⟨H3, I3, nx⟩ := hr
    refine hk s3 H3 (I3.weak (wipe_length _ _).symm fun j v e => ?_) nx
    have hj : j ∉ vs := fun z => cl j (List.mem_append_left _ z) v e
    rw [(wipe_get (σ := σ) (l := vs) (i := j)).1 hj]
    exact e
end
def tDcF (wi : TI) (g : TG) (tt : TT) (tb : Addr → TB) (vs ow : List Nat) : TE := fun σ H Q => wi σ H fun J H1 => ∀ D, H1 D = none → tLoop J g tt vs (tb D) (wipe σ ow) (upd H1 D (.dT [])) fun H' => ∃ kvs, H' D = some (.dT kvs) ∧ (Q (.ref D) H' ∨ ∀ ob, Q (.ref D) (upd H' D (.frz ob (.dT kvs))))
section
variable {X : Cx} {ke ve tg iter : Expr} {rest : List Comprehension} {scope : Scope} {own : List (Str × Nat)} {pos : Pos} {cs : List Expr} {inner : Addr → Env → Sem Fin → Sem Fin} {wi : TI} {g : TG} {tt : TT} {tb : Addr → TB} {vs L : List Nat}
theorem pe_dcF (hc : X.calm = true) (hN : X.N.Nodup) (hi : PI X tg iter wi) (ok : BlkOk X.N X.env.scope scope own)
    (turn : ∀ D en v, compTurn (.DictComp ke ve (⟨tg, iter, cs, 0⟩ :: rest) scope pos) 0 v (.ref D) en = turnSem tg iter.pos cs v en (inner D en) (again (.compLoop (.DictComp ke ve (⟨tg, iter, cs, 0⟩ :: rest) scope pos) 0 v (.ref D) en)))
    (hg : ∀ (s : Shared) (H : Hp) (C : Addr) (cl : List (Str × Addr)) (fp : List Addr), PG (X.blk s H scope (compEnvC scope cl C X.env) fp) tg g)
    (ht : ∀ (s : Shared) (H : Hp) (C : Addr) (cl : List (Str × Addr)) (fp : List Addr), PTs (X.blk s H scope (compEnvC scope cl C X.env) fp) cs tt)
    (hb : ∀ (s : Shared) (H : Hp) (C : Addr) (cl : List (Str × Addr)) (fp : List Addr) (D : Addr), PB (X.blk s H scope (compEnvC scope cl C X.env) fp) (inner D (compEnvC scope cl C X.env)) L (tb D))
    (dj : ∀ i ∈ L, i ∉ vs) (hL : ∀ i ∈ L, i ∈ own.map (·.2)) (hs : ∀ x, foldedSetIterable iter X.env x = pure x) :
    PE X (.DictComp ke ve (⟨tg, iter, cs, 0⟩ :: rest) scope pos) (tDcF wi g tt tb vs (own.map (·.2))) := by
  refine ⟨fun pl s σ H Q I h => ?_⟩
  rw [arm_eval_DictComp]
  have fr : ∀ y ∈ scope.names, y.2 = .free → ∃ c, X.env.cells.lookup y.1 = some c := fun y hy e => (ok.free y hy e).elim (fun k => I.ok.has _ (.inl k)) fun k => I.ok.has _ (.inr k)
  refine wpAny_comprehension_free (use := none) rfl hs (closure_ok fr) ok.kind (fun y hy e => by rw [ok.uniq y hy, e]) (thn (hi.run pl s σ H _ I h) fun xv s1 h1 => thn h1 fun itv s2 h2 => ?_)
  obtain ⟨it, fp, tn, J, H2, rfl, I2, T, st2, f2, q⟩ := h2
  refine wpAny_newObj_type (newEnv_comp ?_)
  have hDn : H2 s2.heap.objs.size = none := I2.hok.fresh (Nat.le_refl _)
  have q := q _ hDn
  have I3 : Inv X pl σ (upd H2 s2.heap.objs.size (.dT [])) { s2 with heap := s2.heap.push { cls := .type "dict", data := .dict #[] } } :=
    I2.laid (t' := s2.toks) (fun b o e => Heap.get?_push_of_some _ e) (Nat.le_refl _) (dt_empty s2.heap I2.big)
  have h3 : ({ s2 with heap := s2.heap.push { cls := .type "dict", data := .dict #[] } } : Shared).heap = s2.heap.push { cls := .type "dict", data := .dict #[] } := rfl
  generalize ({ s2 with heap := s2.heap.push { cls := .type "dict", data := .dict #[] } } : Shared) = s3 at I3 h3 ⊢
  generalize hD : s2.heap.objs.size = D at hDn q I3 ⊢
  have lt2 : ∀ b ∈ fp, b < s2.heap.objs.size := fun b hb => by
    obtain ⟨o, e, _⟩ := T.obj _ _ st2 b hb
    exact Heap.lt_size e
  generalize hH3 : upd H2 D (.dT []) = H3 at I3 q
  have f3 : ∀ b ∈ fp, FpOk X pl H3 b ∧ b < s3.heap.objs.size := fun b hb => by
    have ne : b ≠ D := by rw [← hD]; exact Nat.ne_of_lt (lt2 b hb)
    refine ⟨⟨by rw [← hH3, upd_ne ne]; exact (f2 b hb).1, (f2 b hb).2⟩, ?_⟩
    rw [h3, Heap.size_push]
    exact Nat.lt_succ_of_lt (lt2 b hb)
  have st3 : tn 0 s3.heap := T.keep _ _ _ st2 fun b _ o e => by rw [h3]; exact Heap.get?_push_of_some _ e
  have I4 := block_start I3 ok hN f3
  have pg := hg s3 H3 s3.heap.objs.size (cellsFrom (s3.heap.objs.size + 1) scope.names (cloFrom X.env.cells scope.names [])) fp
  have pt := ht s3 H3 s3.heap.objs.size (cellsFrom (s3.heap.objs.size + 1) scope.names (cloFrom X.env.cells scope.names [])) fp
  have pb := hb s3 H3 s3.heap.objs.size (cellsFrom (s3.heap.objs.size + 1) scope.names (cloFrom X.env.cells scope.names [])) fp D
  have turn' := turn D (compEnvC scope (cellsFrom (s3.heap.objs.size + 1) scope.names (cloFrom X.env.cells scope.names [])) s3.heap.objs.size X.env)
  show codeAny _ _ (.compStart (.DictComp ke ve (⟨tg, iter, cs, 0⟩ :: rest) scope pos) 0 (.ref it) (.ref D) (compEnvC scope (cellsFrom (s3.heap.objs.size + 1) scope.names (cloFrom X.env.cells scope.names [])) s3.heap.objs.size X.env)) (compPost (model X.prog X.w) X.A X.xe none (EP X pl σ Q) (.ref D) s3.heap.objs.size) { s3 with heap := pushCells (s3.heap.push { cls := .type "dict", data := .dict #[] }) scope.names }
  generalize hce : compEnvC scope (cellsFrom (s3.heap.objs.size + 1) scope.names (cloFrom X.env.cells scope.names [])) s3.heap.objs.size X.env = ce at I4 pg pt pb turn' ⊢
  have cL : ce.locals = s3.heap.objs.size := by subst hce; rfl
  have st4 : tn 0 ({ s3 with heap := pushCells (s3.heap.push { cls := .type "dict", data := .dict #[] }) scope.names } : Shared).heap := T.keep _ _ _ st3 fun b _ o e => pushCells_keeps _ _ _ _ (Heap.get?_push_of_some _ e)
  generalize ({ s3 with heap := pushCells (s3.heap.push { cls := .type "dict", data := .dict #[] }) scope.names } : Shared) = s4 at I4 st4 ⊢
  have sf : ∀ b ∈ fp, ∀ H', H' b = none → FpOk (X.blk s3 H3 scope ce fp) [] H' b := fun b hb H' e =>
    ⟨e, (I4.ok.exf b hb).1, I4.ok.exfs b hb, .inl hb, fun x c z => (I4.ok.exf b hb).2 x c z, fun p hp => absurd (show p ∈ ([] : List (Addr × Obj)) ++ [] from hp) (by simp)⟩
  have cw : Clean L (wipe σ (own.map (·.2))) := fun j hj v e => by
    have := (wipe_some e).2
    exact this (hL j hj)
  have lp := loop_ok (X := X.blk s3 H3 scope ce fp) (R := compPost (model X.prog X.w) X.A X.xe none (EP X pl σ Q) (.ref D) s3.heap.objs.size) (fun _ _ z => z) hc turn' pg pt pb dj T (I4.weak (wipe_length _ _) (fun j v e => (wipe_some e).1)) cw st4 (fun b hb => (f3 b hb).1.1) sf q
    (fun s6 H6 I6 ⟨kvs, hk, qq⟩ => by
      have I7 : Inv X pl σ H6 s6 := I3.call' (ch := fp) I6.os I6.base I6.hok I6.bare fun b hb => ⟨(f3 b hb).1.2.2.2.1, (f3 b hb).1.2.1, (f3 b hb).1.2.2.2.2.1, (f3 b hb).1.2.2.2.2.2⟩
      have nC : H6 s3.heap.objs.size = none := by
        rw [← cL]
        exact I6.free
      obtain ⟨m, hn, _⟩ := I6.loc
      have hn : s6.heap.Ns ce.locals m := hn
      rw [cL] at hn
      refine ⟨m, hn, fun h'' sb => ?_⟩
      obtain ⟨k0, k1, k2, k3, k4, k5⟩ := I3.fpOk (H' := H6) (Nat.le_refl _) nC
      have I8 : Inv X pl σ H6 { s6 with heap := h'' } := I7.turned (t' := s6.toks) (fun b o hb e => (sb.2 b hb).trans e) k0 k1 k3 k4 k5
      rcases qq with open' | shut
      · exact ⟨.ref D, _, I8, rfl, open'⟩
      · obtain ⟨ob, I9⟩ := I8.lock hk trivial
        exact ⟨.ref D, _, I9, rfl, shut ob⟩)
  exact codeAny_compStart_dict lp (T.self X.A 0 _ _ _ st4 lp)
end
end Z
set_option Elab.async false
set_option linter.all false
set_option maxRecDepth 100000
namespace Z
open PySem PySem.Spec PyProof.Rows L2
abbrev KVs := List (List Key × W)
abbrev MB := KVs → S → Option (KVs × S)
noncomputable def clL (vs : List Nat) (t : W → Mo Unit) (tt : Mo Bool) (body : MB) (k : Wk) : List W → MB
  | [], acc => fun s => if k.ok s then some (acc, s) else none
  | w :: ws, acc => fun s => if k.ok s then (match (bnd (t w) fun _ => tt) s with
    | some (.ok true, s1) => match body acc s1 with
      | some (acc', s2) => clL vs t tt body k ws acc' (wipeS vs s2)
      | none => none
    | some (.ok false, s1) => clL vs t tt body k ws acc (wipeS vs s1)
    | _ => none) else none
noncomputable def putD (mk mv : Mo RV) : MB := fun acc s => match (bnd mk fun x => freeze (settle x)) s with
  | some (.ok kw, s1) => match (bnd mv fun x => freeze (settle x)) s1 with
    | some (.ok vw, s2) => match tkOf kw with
      | some ks => if acc.length < sz then some (putW acc ks vw, s2) else none
      | none => none
    | _ => none
  | _ => none
noncomputable def clM (vs : List Nat) (mi : Mo Wk) (t : W → Mo Unit) (tt : Mo Bool) (body : MB) : MB := fun acc s => match mi s with
  | some (.ok k, s1) => clL vs t tt body k k.ws acc (wipeS vs s1)
  | _ => none
noncomputable def mDcF (ow vs : List Nat) (mi : Mo Wk) (t : W → Mo Unit) (tt : Mo Bool) (body : MB) : Mo RV := bnd mi fun k => fun s => match clL vs t tt body k k.ws [] (wipeS ow s) with
  | some (kvs, s') => some (.ok (.val (.dF kvs)), wipeS ow s')
  | none => none
section
variable {K : PySem.W.Frag} {mg : Str → Option Value} {ea : EA} {io io' : List Addr} {Fr Fr' : Addr → Prop} {s s' s2 : S} {σ σ' : L2.St} {H H' : Hp} {w : W} {v : V} {c : Cell} {o : HO} {a p : Addr} {ws : List W} {vs : List V} {M : Addr → Prop} {Wx : WX}
def RefB (K : PySem.W.Frag) (mg : Str → Option Value) (ea : EA) (tb : Addr → TB) (body : MB) : Prop := ∀ (D : Addr) (σ : L2.St) (H : Hp) (io : List Addr) (Fr : Addr → Prop) (s : S) (acc : KVs) (av : List (List Key × V)), ¬ Fr D → Sim K mg ea io (pls Fr D) s σ H → H D = some (.dT av) → Rkv K mg io (Ms io (pls Fr D) s σ) H acc av →
  ∀ acc' s', body acc s = some (acc', s') → ∀ N : Hp → Prop, (∀ H' io' av', Sim K mg ea io' (pls Fr D) s' σ H' → Stp io (Ms io (pls Fr D) s σ) Fr H io' (Ms io' (pls Fr D) s' σ) H' → H' D = some (.dT av') → Rkv K mg io' (Ms io' (pls Fr D) s' σ) H' acc' av' → N H') → tb D σ H N
theorem Stp.updD {D : Addr} {M M' : Addr → Prop} {o' : HO} (T : Stp io M Fr H io' M' H') (hM : M D) (hF : ¬ Fr D) : Stp io M Fr H io' M' (upd H' D o') where
  p := ⟨fun b u e h => by rw [upd_ne (fun z => by subst z; exact h hM)]; exact T.p.keep b u e h, T.p.new, T.p.ext⟩
  fr := fun b z => by rw [upd_ne (fun e => by subst e; exact hF z)]; exact T.fr b z
  trk := fun b u e => by
    by_cases h : b = D
    · exact ⟨o', by rw [h, upd_same]⟩
    · rw [upd_ne h]; exact T.trk b u e
theorem ref_put {tk tv : TE} {mk mv : Mo RV} (hk : RefE K mg ea W0 tk mk) (hv : RefE K mg ea W0 tv mv) : RefB K mg ea (tPut tk tv) (putD mk mv) := by
  intro D σ H io Fr s acc av nD S0 hD R0 acc' s' e N hN
  unfold putD at e
  cases e1 : (bnd mk fun x => freeze (settle x)) s with
  | none => rw [e1] at e; cases e
  | some pr =>
    obtain ⟨rk, s1⟩ := pr
    rw [e1] at e
    cases rk with
    | error z => cases e
    | ok kw =>
      simp only at e
      cases e2 : (bnd mv fun x => freeze (settle x)) s1 with
      | none => rw [e2] at e; cases e
      | some pr2 =>
        obtain ⟨rv, s3⟩ := pr2
        rw [e2] at e
        cases rv with
        | error z => cases e
        | ok vw =>
          simp only at e
          cases e3 : tkOf kw with
          | none => rw [e3] at e; cases e
          | some ks =>
            rw [e3] at e
            simp only at e
            split at e
            · rename_i hz
              cases e
              refine one2 hk S0 e1 (fun x q => by cases q) fun x vx s4 H1 io1 e4 px => ?_
              obtain ⟨S1, T1, R1⟩ := px.settled
              obtain ⟨_, l1, S1, w', q, R1⟩ := freeze_ok S1 R1 e4
              cases q
              have T1 := T1.less l1
              refine one2 hv S1 e2 (fun x q => by cases q) fun x2 vx2 s5 H2 io2 e5 px2 => ?_
              obtain ⟨S2, T2, R2⟩ := px2.settled
              obtain ⟨_, l2, S2, w', q, R2⟩ := freeze_ok S2 R2 e5
              cases q
              have T2 := T2.less l2
              have Rk := R1.pers T2.p
              obtain ⟨w1, ws1, rfl, e6⟩ := tk_inv e3
              obtain ⟨b, us, rfl, hb, r6⟩ := (Rn.of Rk).tup1
              have hD2 : H2 D = some (.dT av) := by rw [T2.fr D (.inr rfl), T1.fr D (.inr rfl)]; exact hD
              have RA := (R0.pers T1.p).pers T2.p
              refine ⟨av, ks, b, rfl, by rw [hb, r6.keys e6], hD2, by rw [sz_eq, ← RA.length]; exact hz, ?_⟩
              have S3 := S2.updFr (o' := .dT (putK av ks vx2)) (.inr rfl) hD2
              have MD : Ms io (pls Fr D) s σ D := .inr (.inl (.inr rfl))
              have MD2 : Ms io2 (pls Fr D) s' σ D := .inr (.inl (.inr rfl))
              have T3 : Stp io (Ms io (pls Fr D) s σ) Fr H io2 (Ms io2 (pls Fr D) s' σ) (upd H2 D (.dT (putK av ks vx2))) := ((T1.trans T2).frless pls.sub).updD MD nD
              have PD : Pers io2 (Ms io2 (pls Fr D) s' σ) H2 io2 (Ms io2 (pls Fr D) s' σ) (upd H2 D (.dT (putK av ks vx2))) := (stp_upd MD2).p
              exact hN _ io2 _ S3 T3 upd_same ((RA.put R2).pers PD)
            · cases e
theorem ref_loop {g : TG} {tt : TT} {tb : Addr → TB} {t : W → Mo Unit} {mt : Mo Bool} {body : MB} {l vs L : List Nat} (hg : RefG K mg ea g t l) (hl : ∀ i ∈ l, i ∈ vs) (ht : RefT K mg ea W0 tt mt) (hb : RefB K mg ea tb body) {J : It} {kw : Wk} {io0 : List Addr} {M0 : Addr → Prop} {H0 : Hp} (G : ItG K mg J kw io0 M0 H0)
    {D : Addr} {acc acc' : KVs} {av : List (List Key × V)} (nD : ¬ Fr D) (S0 : Sim K mg ea io (pls Fr D) s (wipe σ vs) H) (T0 : Stp io0 M0 (fun _ => False) H0 io (Ms io (pls Fr D) s (wipe σ vs)) H) (hD : H D = some (.dT av)) (R0 : Rkv K mg io (Ms io (pls Fr D) s (wipe σ vs)) H acc av) (w0 : ∀ j, j ∈ vs → s.r[j]? = some .non ∨ s.r[j]? = none)
    (e : clL vs t mt body kw kw.ws acc s = some (acc', s')) {N : Hp → Prop} (hN : ∀ H' io' av', Sim K mg ea io' (pls Fr D) s' (wipe σ vs) H' → Stp io (Ms io (pls Fr D) s (wipe σ vs)) Fr H io' (Ms io' (pls Fr D) s' (wipe σ vs)) H' → H' D = some (.dT av') → Rkv K mg io' (Ms io' (pls Fr D) s' (wipe σ vs)) H' acc' av' → (∀ j, j ∈ vs → s'.r[j]? = some .non ∨ s'.r[j]? = none) → N H') : tLoop J g tt vs (tb D) σ H N := by
  have nF : ∀ {b}, (fun _ : Addr => False) b → Fr b := fun z => z.elim
  refine ⟨fun i m H2 => m = kw.ws.length - i ∧ i ≤ kw.ws.length ∧ ∃ io2 s2 acc2 av2, Sim K mg ea io2 (pls Fr D) s2 (wipe σ vs) H2 ∧ Stp io (Ms io (pls Fr D) s (wipe σ vs)) Fr H io2 (Ms io2 (pls Fr D) s2 (wipe σ vs)) H2 ∧
    H2 D = some (.dT av2) ∧ Rkv K mg io2 (Ms io2 (pls Fr D) s2 (wipe σ vs)) H2 acc2 av2 ∧ (∀ j, j ∈ vs → s2.r[j]? = some .non ∨ s2.r[j]? = none) ∧ clL vs t mt body kw (kw.ws.drop i) acc2 s2 = some (acc', s'),
    ⟨kw.ws.length, by simp, Nat.zero_le _, io, s, acc, av, S0, .refl, hD, R0, w0, by simpa using e⟩, ?_⟩
  rintro i m H2 ⟨rfl, hle, io2, s2, acc2, av2, S2, T2, hA, RA, wn, e3⟩
  have ck : kw.ok s2 := by
    cases hd : kw.ws.drop i with
    | nil => rw [hd] at e3; unfold clL at e3; split at e3; assumption; cases e3
    | cons w ws => rw [hd] at e3; unfold clL at e3; split at e3; assumption; cases e3
  have cn := cn_of S2 ck
  have T02 := T0.trans (T2.frless fun b z => z.elim)
  by_cases hlt : i < kw.ws.length
  · refine .inr ⟨G.go _ _ _ T02.p cn i hlt, fun H3 => ∃ io3 s3 acc3 av3, Sim K mg ea io3 (pls Fr D) s3 (wipe σ vs) H3 ∧ Stp io (Ms io (pls Fr D) s (wipe σ vs)) Fr H io3 (Ms io3 (pls Fr D) s3 (wipe σ vs)) H3 ∧
      H3 D = some (.dT av3) ∧ Rkv K mg io3 (Ms io3 (pls Fr D) s3 (wipe σ vs)) H3 acc3 av3 ∧ (∀ j, j ∈ vs → s3.r[j]? = some .non ∨ s3.r[j]? = none) ∧ clL vs t mt body kw (kw.ws.drop (i + 1)) acc3 s3 = some (acc', s'),
      fun H3 ⟨io3, s3, acc3, av3, a1, a2, a3, a4, a5, a6⟩ => ⟨kw.ws.length - (i + 1), by omega, rfl, hlt, io3, s3, acc3, av3, a1, a2, a3, a4, a5, a6⟩, fun x H3 y => ?_⟩
    rw [drop_get hlt] at e3
    have item : ∃ io3, Sim K mg ea io3 (pls Fr D) s2 (wipe σ vs) H3 ∧ Stp io2 (Ms io2 (pls Fr D) s2 (wipe σ vs)) (pls Fr D) H2 io3 (Ms io3 (pls Fr D) s2 (wipe σ vs)) H3 ∧ Rw K mg io3 (Ms io3 (pls Fr D) s2 (wipe σ vs)) H3 kw.ws[i] x := by
      rcases G.yld _ _ _ T02.p cn (fun a z => S2.trkN z) i x H3 y kw.ws[i] (by simp [hlt]) with ⟨rfl, r⟩ | ⟨p, us, ws', hp, rfl, hw, rfl, r⟩
      · exact ⟨io2, S2, .refl, r⟩
      · obtain ⟨S3, T3⟩ := S2.laid (o := .tup us) hp
        have r' := r.pers T3.p
        refine ⟨io2, S3, T3, ?_⟩
        rw [hw]
        refine .tup (.inl ⟨upd_same, fun z => ?_⟩) r'.1 r'.2
        obtain ⟨u, e⟩ := S2.trk z
        rw [hp] at e; cases e
    obtain ⟨io3, S3, T3, R3⟩ := item
    have T23 := T2.trans (T3.frless pls.sub)
    have hA3 : H3 D = some (.dT av2) := (T3.fr D (.inr rfl)).trans hA
    have RA3 := RA.pers T3.p
    unfold clL at e3
    rw [if_pos ck] at e3
    cases ex : (bnd (t kw.ws[i]) fun _ => mt) s2 with
    | none => rw [ex] at e3; cases e3
    | some pr =>
      obtain ⟨rb, s4⟩ := pr
      rw [ex] at e3
      rcases bnd_some ex with ⟨z, e5, rfl⟩ | ⟨_, s5, e5, e6⟩
      · have := hg.ne _ _ _ _ e5
        cases this
      · refine hg.go (wipe σ vs) H3 io3 (pls Fr D) s2 _ x S3 R3 _ _ e5 _ fun σ5 S5 l5 n5 k5 => ?_
        have k5' : ∀ j, j ∉ vs → σ5[j]? = (wipe σ vs)[j]? := fun j hj => k5 j fun z => hj (hl j z)
        have we : wipe σ5 vs = wipe σ vs := by rw [wipe_eq n5 k5', wipe_wipe]
        refine ⟨we, ?_⟩
        have T5 : Stp io3 (Ms io3 (pls Fr D) s2 (wipe σ vs)) (pls Fr D) H3 io3 (Ms io3 (pls Fr D) s5 σ5) H3 := Stp.refl.less l5
        have back : ∀ {s6 : S} {H6 : Hp} {io6 : List Addr}, Sim K mg ea io6 (pls Fr D) s6 σ5 H6 → Sim K mg ea io6 (pls Fr D) (wipeS vs s6) (wipe σ vs) H6 ∧ (∀ b, Ms io6 (pls Fr D) (wipeS vs s6) (wipe σ vs) b → Ms io6 (pls Fr D) s6 σ5 b) := fun S6 =>
          S6.wiped (by rw [n5]) fun j hj => (k5' j hj).symm
        cases rb with
        | error z => cases e3
        | ok b =>
          refine ht σ5 H3 io3 (pls Fr D) s5 S5 _ _ e6 _ (fun b' q H6 io6 p6 => ?_) fun z q => by cases q
          cases q
          have T36 := T23.trans ((T5.trans p6.2).frless pls.sub)
          have hA6 : H6 D = some (.dT av2) := (p6.2.fr D (.inr rfl)).trans hA3
          have RA6 := (RA3.pers T5.p).pers p6.2.p
          cases b with
          | false =>
            rw [if_neg Bool.false_ne_true]
            obtain ⟨S7, l7⟩ := back p6.1
            exact ⟨io6, _, acc2, av2, S7, T36.less l7, hA6, RA6.pers (.less l7), fun j hj => (wipeR_get (r := s4.r)).2 hj, e3⟩
          | true =>
            rw [if_pos rfl]
            simp only at e3
            cases eb : body acc2 s4 with
            | none => rw [eb] at e3; cases e3
            | some pr2 =>
              obtain ⟨acc3, s7⟩ := pr2
              rw [eb] at e3
              simp only at e3
              refine hb D σ5 H6 io6 Fr s4 acc2 av2 nD p6.1 hA6 RA6 _ _ eb _ fun H8 io8 av8 S8 T8 hA8 RA8 => ?_
              obtain ⟨S9, l9⟩ := back S8
              exact ⟨io8, _, acc3, av8, S9, (T36.trans T8).less l9, hA8, RA8.pers (.less l9), fun j hj => (wipeR_get (r := s7.r)).2 hj, e3⟩
  · have hi' : i = kw.ws.length := by omega
    subst hi'
    rw [List.drop_length] at e3
    unfold clL at e3
    rw [if_pos ck] at e3
    cases e3
    exact .inl ⟨G.stop _ _ _ T02.p cn, hN _ io2 av2 S2 T2 hA RA wn⟩
theorem ref_clause {wi : TI} {g : TG} {tt : TT} {tb : Addr → TB} {mi : Mo Wk} {t : W → Mo Unit} {mt : Mo Bool} {body : MB} {l vs : List Nat} (hi : RefI K mg ea W0 wi mi) (hg : RefG K mg ea g t l) (hl : ∀ i ∈ l, i ∈ vs) (ht : RefT K mg ea W0 tt mt) (hb : RefB K mg ea tb body) : RefB K mg ea (fun D => tClause wi g tt vs (tb D)) (clM vs mi t mt body) := by
  intro D σ H io Fr s acc av nD S0 hD R0 acc' s' e N hN
  unfold clM at e
  cases e1 : mi s with
  | none => rw [e1] at e; cases e
  | some pr =>
    obtain ⟨rk, s1⟩ := pr
    rw [e1] at e
    cases rk with
    | error z => cases e
    | ok kw =>
      simp only at e
      refine hi σ H io (pls Fr D) s S0 _ _ e1 _ (fun kw' q J H1 io1 p1 G => ?_) fun z q => by cases q
      cases q
      obtain ⟨S2, l2⟩ := p1.1.wiped (l := vs) (σ' := wipe σ vs) (wipe_length σ vs) fun j hj => (wipe_get (σ := σ)).1 hj
      have hD1 : H1 D = some (.dT av) := (p1.2.fr D (.inr rfl)).trans hD
      have R1 := (R0.pers p1.2.p).pers (.less l2)
      refine ref_loop (L := []) hg hl ht hb G nD S2 (Stp.refl.less l2) hD1 R1 (fun j hj => (wipeR_get (r := s1.r)).2 hj) e fun H3 io3 av3 S3 T3 hA3 RA3 wn => ?_
      obtain ⟨S4, l4⟩ := S3.sub (r' := s'.r) (σ' := σ) (by rw [S3.len, wipe_length]) fun j => by
        by_cases hj : j ∈ vs
        · exact .inr (wn j hj)
        · exact .inl ⟨rfl, ((wipe_get (σ := σ)).1 hj).symm⟩
      exact hN H3 io3 av3 S4 (((p1.2.frless pls.sub).less l2 |>.trans T3).less l4) hA3 (RA3.pers (.less l4))
theorem ref_dcF {wi : TI} {g : TG} {tt : TT} {tb : Addr → TB} {mi : Mo Wk} {t : W → Mo Unit} {mt : Mo Bool} {body : MB} {l vs ow : List Nat} (hi : RefI K mg ea Wx wi mi) (hg : RefG K mg ea g t l) (hl : ∀ i ∈ l, i ∈ vs) (hv : ∀ i ∈ vs, i ∈ ow) (ht : RefT K mg ea W0 tt mt) (hb : RefB K mg ea tb body) : RefE K mg ea Wx (tDcF wi g tt tb vs ow) (mDcF ow vs mi t mt body) := by
  intro σ H io Fr s S0 r0 s' e Q hok hex
  rcases bnd_some e with ⟨x, e1, rfl⟩ | ⟨kw, s1, e1, e2⟩
  · exact hi σ H io Fr s S0 _ _ e1 _ (fun _ q => by cases q) fun x' q cls d H' io' px => by
      cases q
      exact hex _ rfl cls d H' io' px
  · refine hi σ H io Fr s S0 _ _ e1 _ (fun kw' q J H1 io1 px G => ?_) (fun _ q => by cases q)
    cases q
    intro D hD
    obtain ⟨SD, TD, nD⟩ := px.1.alloc (o := .dT []) hD
    have nFD : ¬ Fr D := fun z => nD (.inl z)
    obtain ⟨SW, lW⟩ := SD.wiped (l := ow) (σ' := wipe σ ow) (wipe_length σ ow) fun j hj => (wipe_get (σ := σ)).1 hj
    have ww : wipe (wipe σ ow) vs = wipe σ ow := by
      apply List.ext_getElem?
      intro j
      by_cases hj : j ∈ vs
      · rcases Nat.lt_or_ge j σ.length with q | q
        · rw [(wipe_get (σ := wipe σ ow)).2 hj (by rw [wipe_length]; exact q), (wipe_get (σ := σ)).2 (hv j hj) q]
        · rw [List.getElem?_eq_none (by rw [wipe_length, wipe_length]; exact q), List.getElem?_eq_none (by rw [wipe_length]; exact q)]
      · rw [(wipe_get (σ := wipe σ ow)).1 hj]
    cases el : clL vs t mt body kw kw.ws [] (wipeS ow s1) with
    | none => rw [el] at e2; cases e2
    | some pr =>
      obtain ⟨kvs, s3⟩ := pr
      rw [el] at e2
      simp only at e2
      cases e2
      have lW0 := lW
      rw [← ww] at SW lW
      refine ref_loop (L := []) hg hl ht hb G nFD SW ((TD.frless fun b z => z.elim).less lW) upd_same Rkv.nil (fun j hj => (wipeR_get (r := s1.r)).2 (hv j hj)) el fun H3 io3 av3 S3 T3 hA3 RA3 wn => ⟨av3, hA3, .inr fun ob => ?_⟩
      rw [ww] at S3 T3 RA3
      have hDn : ∀ b, b = D → ¬ (b ∈ io3 ∨ FrO Fr s3.r (wipe σ ow) b) := fun b hb z => by
        subst hb
        rcases z with z | z | ⟨j, c, h1, h2⟩
        · exact S3.g.dj b z (.inl (.inr rfl))
        · exact nFD z
        · obtain ⟨b', o, q1, _, _, q4⟩ := S3.own j c h1
          rw [h2] at q1
          cases q1
          exact q4 (.inr rfl)
      have S4 : Sim K mg ea io3 Fr s3 (wipe σ ow) (upd H3 D (.frz ob (.dT av3))) := by
        refine S3.change (fun b z => .inl z) (fun b o hb hM => ?_) (fun b hb => ?_) (fun b z => ?_)
        · rw [upd_ne (fun z => hM (.inr (.inl (.inr z))))]; exact hb
        · rw [upd_ne (fun z => hDn b z (hb.imp id fun z => .inr z))]
        · obtain ⟨o, ho, n⟩ := S3.g.fr b (.inl (.inl z))
          exact ⟨o, by rw [upd_ne (show b ≠ D from fun z' => nFD (by rw [← z']; exact z))]; exact ho, n⟩
      obtain ⟨S5, l5⟩ := S4.sub (r' := (wipeS ow s3).r) (σ' := σ) (by show (wipeR s3.r ow).length = σ.length; rw [wipeR_len, S4.len, wipe_length]) fun j => by
        by_cases hj : j ∈ ow
        · exact .inr ((wipeR_get (r := s3.r)).2 hj)
        · exact .inl ⟨(wipeR_get (r := s3.r)).1 hj, ((wipe_get (σ := σ)).1 hj).symm⟩
      have lD : ∀ b, Ms io3 Fr s3 (wipe σ ow) b → Ms io3 (pls Fr D) s3 (wipe σ ow) b := fun b z => Ms.mono (fun b z => .inl z) b z
      have T13 : Stp io1 (Ms io1 Fr s1 σ) Fr H1 io3 (Ms io3 (pls Fr D) s3 (wipe σ ow)) H3 := (TD.less lW0).trans T3
      have PF : Pers io3 (Ms io3 (pls Fr D) s3 (wipe σ ow)) H3 io3 (Ms io3 Fr (wipeS ow s3) σ) (upd H3 D (.frz ob (.dT av3))) :=
        ⟨fun b u e h => by rw [upd_ne (fun z => by subst z; exact h (.inr (.inl (.inr rfl))))]; exact e, fun b z => .inl (lD b (l5 b z)), fun _ _ e => e⟩
      have T5 : Stp io1 (Ms io1 Fr s1 σ) Fr H1 io3 (Ms io3 Fr (wipeS ow s3) σ) (upd H3 D (.frz ob (.dT av3))) := (T13.updNew hD nFD hA3).less fun b z => lD b (l5 b z)
      have RF := RA3.pers PF
      refine hok _ rfl (.ref D) _ io3 ⟨S5, px.2.trans T5, .dF upd_same (fun z => ?_) RF.1 RF.2.2⟩
      exact hDn D rfl (l5 D z)
end
end Z
set_option Elab.async false
set_option linter.all false
set_option maxRecDepth 100000
namespace Z
open PySem PySem.Spec PyProof.Rows L2
def kW : Key → W
  | .inl i => .int i
  | .inr x => .str x
def keyW (ks : List Key) : W := .tup (ks.map kW)
def mIterD (m : Mo RV) : Mo Wk := bnd m fun x => bnd (look (settle x)) fun w => match w with
  | .dF kvs => ret ⟨kvs.map fun p => keyW p.1, none⟩
  | _ => stk
section
variable {K : PySem.W.Frag} {mg : Str → Option Value} {ea : EA} {io io' : List Addr} {Fr Fr' : Addr → Prop} {s s' s2 : S} {σ σ' : L2.St} {H H' : Hp} {w : W} {v : V} {c : Cell} {o : HO} {a p : Addr} {ws : List W} {vs : List V} {M : Addr → Prop} {Wx : WX}
theorem rw_kW (k : Key) : Rw K mg io M H (kW k) (kV k) := by
  cases k with
  | inl i => exact .int i
  | inr x => exact .str x
theorem rw_keyW {ks : List Key} {q : Addr} (h : H q = some (.tup (ks.map kV))) (hn : ¬ M q) : Rw K mg io M H (keyW ks) (.ref q) := by
  refine .tup (.inl ⟨h, hn⟩) (by simp) fun i w v h1 h2 => ?_
  rw [List.getElem?_map] at h1 h2
  cases e : ks[i]? with
  | none => rw [e] at h1; cases h1
  | some k => rw [e] at h1 h2; cases h1; cases h2; exact rw_kW k
theorem itg_dF {d : Addr} {ob : Obj} {kvs : List (List Key × W)} {av : List (List Key × V)} (h : H d = some (.frz ob (.dT av))) (hn : ¬ M d) (r : kvs.map (·.1) = av.map (·.1)) : ItG K mg (Itkt d ob av) ⟨kvs.map fun p => keyW p.1, none⟩ io M H := by
  have hl : kvs.length = av.length := by simpa using congrArg List.length r
  exact {
    go := fun io' M' H' P _ i hi => ⟨P.keep _ _ h hn, by rw [← hl]; simpa using hi⟩
    stop := fun io' M' H' P _ => ⟨P.keep _ _ h hn, by simp [hl]⟩
    yld := fun io' M' H' P _ nt i x H2 y w hw => by
      obtain ⟨rfl, k, u, q, h1, rfl, h2⟩ := y
      refine .inl ⟨rfl, ?_⟩
      have hk : (kvs.map (·.1))[i]? = some k := by rw [r, List.getElem?_map, h1]; rfl
      have e : w = keyW k := by
        rw [List.getElem?_map] at hw hk
        cases e : kvs[i]? with
        | none => rw [e] at hw; cases hw
        | some p => rw [e] at hw hk; cases hw; cases hk; rfl
      subst e
      exact rw_keyW h2 fun z => by
        obtain ⟨o, ho, hno⟩ := nt q z
        exact Nt.of ho hno _ h2 }
theorem ref_iterD {td : TE} {m : Mo RV} (h : RefE K mg ea Wx td m) : RefI K mg ea Wx (iKeys td) (mIterD m) := by
  intro σ H io Fr s S0 r0 s' e R hok hex
  refine one2 h S0 e hex fun x v s1 H1 io1 e2 px => ?_
  obtain ⟨S1, T1, R1⟩ := px.settled
  rcases bnd_some e2 with ⟨z, e3, rfl⟩ | ⟨w, s3, e3, e4⟩
  · obtain ⟨_, _, q, _⟩ := look_ok S1 R1 e3
    cases q
  · obtain ⟨rfl, w', q, r2⟩ := look_ok S1 R1 e3
    cases q
    split at e4
    · rename_i kvs
      cases e4
      obtain ⟨d, ob, av, rfl, hd, hn, rr⟩ := r2.dF
      exact ⟨d, ob, rfl, .inr ⟨av, hd, hok _ rfl _ _ _ ⟨S1, T1⟩ (itg_dF hd hn rr.1)⟩⟩
    · cases e4
def fLenD : List W → Option OR
  | [.dF kvs] => some (.imm (.int (kvs.length : Nat)))
  | _ => none
theorem cm_lenD {X : Cx} : CallM X (.builtin "len") fLenD := by
  refine ⟨fun xs H Q => ∃ (d : Addr) (ob : Obj) (kvs : List (List Key × V)), xs = [.ref d] ∧ H d = some (.frz ob (.dT kvs)) ∧ Q (.int (kvs.length : Nat)) H, ?_, fun io M H ws vs z Q rx e q => ?_⟩
  · intro pl s σ H xs us Q I r h
    obtain ⟨d, ob, kvs, rfl, hd, q⟩ := h
    obtain ⟨u, rfl, rx⟩ := r.one
    cases (show u = Value.ref d from rx)
    obtain ⟨z1, z2, ys, rl, rd⟩ := dt_rd I.hok (.inr ⟨ob, hd⟩)
    have hl : kvs.length = ys.length := Paired.length rl
    have z3 : ys.length ≤ 16777216 := by rw [sizeLine_eq] at z1; omega
    refine call_len_dictH z2 rd (by omega) ?_
    rw [← hl]
    exact ⟨.int ((kvs.length : Nat) : Int), H, I.tok _, ⟨_, rfl⟩, q⟩
  · unfold fLenD at e
    split at e
    · obtain ⟨v, rfl, r⟩ := p1 rx
      cases e
      obtain ⟨d, ob, av, rfl, hd, _, rr⟩ := r.dF
      refine ⟨d, ob, av, rfl, hd, ?_⟩
      rw [← rr.length]
      exact q _ (.int _)
    · cases e
end
section
variable {X : Cx} {ea : EA} {Wx : WX} {pos : Pos} {ke ve tg iter : Expr} {ifs : List Expr} {scope : Scope} {own : List (Str × Nat)} {mi : Mo Wk} {t : W → Mo Unit} {l : List Nat} {mt : Mo Bool} {mk mv me : Mo RV}
theorem pei_dict {e : Expr} {m : Mo RV} (h : Pee X ea Wx e m) : Pei X ea Wx tg e (mIterD m) := let ⟨_, q, r⟩ := h.ex; ⟨_, pi_keys q, ref_iterD r⟩
structure BlkD (X : Cx) (ea : EA) (tg ke ve : Expr) (ifs : List Expr) (scope : Scope) (own : List (Str × Nat)) (t : W → Mo Unit) (l : List Nat) (mt : Mo Bool) (mk mv : Mo RV) : Prop where
  ok : BlkOk X.N X.env.scope scope own
  ne : ∀ w s r s', t w s = some (r, s') → r = .ok ()
  sub : ∀ i ∈ l, i ∈ own.map (·.2)
  tg : ∀ (s : Shared) (H : Hp) (C : Addr) (cl : List (Str × Addr)) (fp : List Addr), Peg (X.blk s H scope (compEnvC scope cl C X.env) fp) ea tg t l
  ts : ∀ (s : Shared) (H : Hp) (C : Addr) (cl : List (Str × Addr)) (fp : List Addr), Pets (X.blk s H scope (compEnvC scope cl C X.env) fp) ea W0 ifs mt
  ky : ∀ (s : Shared) (H : Hp) (C : Addr) (cl : List (Str × Addr)) (fp : List Addr), Pee (X.blk s H scope (compEnvC scope cl C X.env) fp) ea W0 ke mk
  vl : ∀ (s : Shared) (H : Hp) (C : Addr) (cl : List (Str × Addr)) (fp : List Addr), Pee (X.blk s H scope (compEnvC scope cl C X.env) fp) ea W0 ve mv
theorem pee_dc (hu : X.A.units < cLine) (hN : X.N.Nodup) (hi : Pei X ea Wx tg iter mi) (b : BlkD X ea tg ke ve ifs scope own t l mt mk mv) (hc : X.calm = true := by rfl) (hs : ∀ x, foldedSetIterable iter X.env x = pure x := by intro _; rfl) :
    Pee X ea Wx (.DictComp ke ve [⟨tg, iter, ifs, 0⟩] scope pos) (mDcF (own.map (·.2)) (own.map (·.2)) mi t mt (putD mk mv)) := by
  obtain ⟨wi, p, r⟩ := hi.ex
  refine ⟨_, pe_dcF (g := gOf X.K X.mg ea t l) (tt := ttOf X.K X.mg ea W0 mt) (inner := fun D en => putThen ke ve D en) (tb := fun D => tPut (tOf X.K X.mg ea W0 mk) (tOf X.K X.mg ea W0 mv) D) (L := []) (vs := own.map (·.2)) hc hN p b.ok (fun D en v => turn_10) (fun s H C cl fp => (b.tg s H C cl fp).can) (fun s H C cl fp => (b.ts s H C cl fp).can)
    (fun s H C cl fp D => pb_put (X := X.blk s H scope (compEnvC scope cl C X.env) fp) (fun _ _ z => z) hu (b.ky s H C cl fp).can (b.vl s H C cl fp).can) (fun _ z => by simp at z) (fun _ z => by simp at z) hs, ?_⟩
  exact ref_dcF r (ref_gOf b.ne) b.sub (fun _ z => z) (ref_ttOf _) (ref_put (ref_tOf _) (ref_tOf _))
structure BlkD3 (X : Cx) (ea : EA) (tg ke ve : Expr) (ifs : List Expr) (tg1 i1 : Expr) (f1 : List Expr) (tg2 i2 : Expr) (f2 : List Expr) (scope : Scope) (own : List (Str × Nat)) (v0 v1 v2 : List Nat) (t : W → Mo Unit) (l : List Nat) (mt : Mo Bool) (mi1 : Mo Wk) (t1 : W → Mo Unit) (l1 : List Nat) (mt1 : Mo Bool) (mi2 : Mo Wk) (t2 : W → Mo Unit) (l2 : List Nat) (mt2 : Mo Bool) (mk mv : Mo RV) : Prop where
  ok : BlkOk X.N X.env.scope scope own
  ne : ∀ w s r s', t w s = some (r, s') → r = .ok ()
  ne1 : ∀ w s r s', t1 w s = some (r, s') → r = .ok ()
  ne2 : ∀ w s r s', t2 w s = some (r, s') → r = .ok ()
  sub : ∀ i ∈ l, i ∈ v0
  sub1 : ∀ i ∈ l1, i ∈ v1
  sub2 : ∀ i ∈ l2, i ∈ v2
  hv : (∀ i ∈ v0, i ∈ own.map (·.2)) ∧ (∀ i ∈ v1 ++ (v2 ++ []), i ∈ own.map (·.2)) ∧ (∀ i ∈ v1 ++ (v2 ++ []), i ∉ v0) ∧ ∀ i ∈ v2 ++ [], i ∉ v1
  tg : ∀ (s : Shared) (H : Hp) (C : Addr) (cl : List (Str × Addr)) (fp : List Addr), Peg (X.blk s H scope (compEnvC scope cl C X.env) fp) ea tg t l
  ts : ∀ (s : Shared) (H : Hp) (C : Addr) (cl : List (Str × Addr)) (fp : List Addr), Pets (X.blk s H scope (compEnvC scope cl C X.env) fp) ea W0 ifs mt
  it1 : ∀ (s : Shared) (H : Hp) (C : Addr) (cl : List (Str × Addr)) (fp : List Addr), Pei (X.blk s H scope (compEnvC scope cl C X.env) fp) ea W0 tg1 i1 mi1
  tg1 : ∀ (s : Shared) (H : Hp) (C : Addr) (cl : List (Str × Addr)) (fp : List Addr), Peg (X.blk s H scope (compEnvC scope cl C X.env) fp) ea tg1 t1 l1
  ts1 : ∀ (s : Shared) (H : Hp) (C : Addr) (cl : List (Str × Addr)) (fp : List Addr), Pets (X.blk s H scope (compEnvC scope cl C X.env) fp) ea W0 f1 mt1
  it2 : ∀ (s : Shared) (H : Hp) (C : Addr) (cl : List (Str × Addr)) (fp : List Addr), Pei (X.blk s H scope (compEnvC scope cl C X.env) fp) ea W0 tg2 i2 mi2
  tg2 : ∀ (s : Shared) (H : Hp) (C : Addr) (cl : List (Str × Addr)) (fp : List Addr), Peg (X.blk s H scope (compEnvC scope cl C X.env) fp) ea tg2 t2 l2
  ts2 : ∀ (s : Shared) (H : Hp) (C : Addr) (cl : List (Str × Addr)) (fp : List Addr), Pets (X.blk s H scope (compEnvC scope cl C X.env) fp) ea W0 f2 mt2
  ky : ∀ (s : Shared) (H : Hp) (C : Addr) (cl : List (Str × Addr)) (fp : List Addr), Pee (X.blk s H scope (compEnvC scope cl C X.env) fp) ea W0 ke mk
  vl : ∀ (s : Shared) (H : Hp) (C : Addr) (cl : List (Str × Addr)) (fp : List Addr), Pee (X.blk s H scope (compEnvC scope cl C X.env) fp) ea W0 ve mv
theorem pee_dc3 {tg1 i1 tg2 i2 : Expr} {f1 f2 : List Expr} {v0 v1 v2 l1 l2 : List Nat} {mi1 mi2 : Mo Wk} {t1 t2 : W → Mo Unit} {mt1 mt2 : Mo Bool} (hu : X.A.units < cLine) (hN : X.N.Nodup) (hi : Pei X ea Wx tg iter mi) (b : BlkD3 X ea tg ke ve ifs tg1 i1 f1 tg2 i2 f2 scope own v0 v1 v2 t l mt mi1 t1 l1 mt1 mi2 t2 l2 mt2 mk mv) (hc : X.calm = true := by rfl) (hs : ∀ x, foldedSetIterable iter X.env x = pure x := by intro _; rfl)
    (hs1 : ∀ env x, foldedSetIterable i1 env x = pure x := by intro _ _; rfl) (hs2 : ∀ env x, foldedSetIterable i2 env x = pure x := by intro _ _; rfl) :
    Pee X ea Wx (.DictComp ke ve [⟨tg, iter, ifs, 0⟩, ⟨tg1, i1, f1, 0⟩, ⟨tg2, i2, f2, 0⟩] scope pos) (mDcF (own.map (·.2)) v0 mi t mt (clM v1 mi1 t1 mt1 (clM v2 mi2 t2 mt2 (putD mk mv)))) := by
  obtain ⟨wi, p, r⟩ := hi.ex
  obtain ⟨h1, h2, h3, h4⟩ := b.hv
  refine ⟨_, pe_dcF (g := gOf X.K X.mg ea t l) (tt := ttOf X.K X.mg ea W0 mt) (inner := fun D en => clauseSem (.DictComp ke ve [⟨tg, iter, ifs, 0⟩, ⟨tg1, i1, f1, 0⟩, ⟨tg2, i2, f2, 0⟩] scope pos) 1 i1 (.ref D) en) (tb := fun D => tClause (iOf X.K X.mg ea W0 mi1) (gOf X.K X.mg ea t1 l1) (ttOf X.K X.mg ea W0 mt1) v1 (tClause (iOf X.K X.mg ea W0 mi2) (gOf X.K X.mg ea t2 l2) (ttOf X.K X.mg ea W0 mt2) v2 (tPut (tOf X.K X.mg ea W0 mk) (tOf X.K X.mg ea W0 mv) D))) (L := v1 ++ (v2 ++ [])) (vs := v0) hc hN p b.ok (fun D en v => turn_30) (fun s H C cl fp => (b.tg s H C cl fp).can) (fun s H C cl fp => (b.ts s H C cl fp).can)
    (fun s H C cl fp D => pb_clause (X := X.blk s H scope (compEnvC scope cl C X.env) fp) (fun _ _ z => z) hc (fun v => turn_31) (fun v => start_31) (fun y => hs1 _ y) (b.it1 s H C cl fp).can (b.tg1 s H C cl fp).can (b.ts1 s H C cl fp).can
      (pb_clause (X := X.blk s H scope (compEnvC scope cl C X.env) fp) (fun _ _ z => z) hc (fun v => turn_32) (fun v => start_32) (fun y => hs2 _ y) (b.it2 s H C cl fp).can (b.tg2 s H C cl fp).can (b.ts2 s H C cl fp).can
        (pb_put (X := X.blk s H scope (compEnvC scope cl C X.env) fp) (fun _ _ z => z) hu (b.ky s H C cl fp).can (b.vl s H C cl fp).can) (fun i z => by simp at z)) h4) h3 h2 hs, ?_⟩
  exact ref_dcF r (ref_gOf b.ne) b.sub h1 (ref_ttOf _) (ref_clause (ref_iOf _) (ref_gOf b.ne1) b.sub1 (ref_ttOf _) (ref_clause (ref_iOf _) (ref_gOf b.ne2) b.sub2 (ref_ttOf _) (ref_put (ref_tOf _) (ref_tOf _))))
end
end Z
set_option linter.all false
set_option Elab.async false
set_option maxRecDepth 100000
set_option linter.all false
set_option Elab.async false
set_option maxRecDepth 100000
namespace Z
open PySem PySem.Spec PyProof.Rows L2
def srcD (d : Addr) (ob : Obj) (av : List (List Key × V)) : Src where
  src := d
  len := av.length
  st := fun it i h => ∃ es ep, ob.data = .dict es ep ∧ es.size = av.length ∧ h.IsKeyIter it d i es.size ep
  fin := fun _ => none
  yl := fun i v H => ∃ k u q, av[i]? = some (k, u) ∧ v = .ref q ∧ H q = some (.tup (k.map kV))
  ok := fun H => H d = some (.frz ob (.dT av))
def mkD (u : V) (S : Src) : Prop := ∃ d ob av, u = .ref d ∧ S = srcD d ob av
theorem srcD_ok {P : Program} {w : World} {H : Hp} {h : Heap} {d it : Addr} {ob : Obj} {av : List (List Key × V)} {i : Nat} (e : (srcD d ob av).st it i h) : ObjOk P w H h it ((srcD d ob av).at it i) := by
  refine ⟨e, ?_, ?_⟩
  · obtain ⟨_, _, _, _, o, z, _⟩ := e
    exact ⟨o, z⟩
  · rintro h1 h2 ⟨es, ep, e1, e2, z⟩ k
    exact ⟨es, ep, e1, e2, z.at k⟩
section
variable {X : Cx} {pins : List (Addr × Obj)} {σ : L2.St} {H : Hp} {s : Shared} {it d : Addr} {ob : Obj} {av : List (List Key × V)} {A : Around} {E : Value → Shared → Prop}
theorem paired_at {α β : Type} {F : α → β → Prop} {l : List α} {m : List β} (p : Paired F l m) : ∀ {i : Nat} {a : α} {b : β}, l[i]? = some a → m[i]? = some b → F a b := by
  induction p with
  | nil => intro i a b e; simp at e
  | cons r t ih =>
    intro i a b e e2
    cases i with
    | zero =>
      cases e
      cases e2
      exact r
    | succ i => exact ih (by simpa using e) (by simpa using e2)
theorem dict_at (I : Inv X pins σ H s) (h : H d = some (.frz ob (.dT av))) : (d == sysModules) = false ∧ s.heap.get? d = some ob ∧ ob.ExactDict ∧ ∃ es ep, ob.data = .dict es ep ∧ es.size = av.length ∧
    ∀ (i : Nat) (k : List Key) (u : V), av[i]? = some (k, u) → ∃ (en : DictEntry) (q : Addr), es[i]? = some en ∧ en.key = .ref q ∧ H q = some (.tup (k.map kV)) := by
  obtain ⟨g, _, no, xs, pr, o, es, ep, g2, ex, data, ent, _⟩ := (show ObjOk X.prog X.w H s.heap d (.frz ob (.dT av)) from I.hok d _ h)
  rw [g] at g2
  cases g2
  have size := size_of_entries ent
  refine ⟨no, g, ex, es, ep, data, by rw [size]; exact (Paired.length pr).symm, fun i k u e => ?_⟩
  have li : i < xs.length := by rw [← Paired.length pr]; exact get_lt e
  have p := paired_at pr e (List.getElem?_eq_getElem li)
  exact ⟨entryOfKey _ xs[i], xs[i].2.1, by rw [entry_at ent, List.getElem?_eq_getElem li]; rfl, rfl, p.2.1⟩
theorem stepsD (hh : A.handled = none) (hx : X.ex = []) (h0 : ∀ a, X.s_0.heap.get? a = none → X.H_0 a = none) (new : X.s_0.heap.get? it = none) : Steps X A it (srcD d ob av) where
  ty := fun I e => let ⟨_, _, _, _, z⟩ := (I.hok it _ e).1; ⟨"dict_keyiterator", _, z.typeIs, PySem.F.slot_dict_keyiterator_next⟩
  more := by
    intro pins σ H s i Q E I e ok lt k
    obtain ⟨_, g, _, es, ep, data, size, ent⟩ := dict_at I (show H d = _ from ok)
    obtain ⟨es', ep', data', size', z⟩ := (I.hok it _ e).1
    rw [data] at data'
    cases data'
    obtain ⟨en, q, e1, e2, e3⟩ := ent i av[i].1 av[i].2 (List.getElem?_eq_getElem lt)
    refine next_key_item z g data rfl e1 fun h' z' sb => ?_
    rw [e2]
    exact k (.ref q) _ _ ⟨_, _, q, List.getElem?_eq_getElem lt, rfl, e3⟩ rfl (I.write (e := it) (t' := s.toks) (by rw [e]; exact True.intro) (.inl rfl) (fun b u nb hb => (sb.2 b nb).trans hb) (let ⟨o, ho, _⟩ := z'; ⟨o, ho⟩) (srcD_ok ⟨es, ep, data, size, z'⟩))
  last := by
    intro pins σ H s Q E I e ok k
    obtain ⟨_, g, _, es, ep, data, size, ent⟩ := dict_at I (show H d = _ from ok)
    obtain ⟨es', ep', data', size', z⟩ := (I.hok it _ e).1
    rw [data] at data'
    cases data'
    refine next_key_end hh z g data rfl (Nat.le_of_eq size) fun h' xb => ?_
    obtain ⟨G, sub, gone, J⟩ := I.untrack e (fr0_none (h0 it new)) hx
    refine k _ ?_
    have K := J.kept (h' := h') (t' := s.toks) fun b o hb => xb b o (fun z => by rw [z, gone] at hb; cases hb) (sub b o hb)
    exact K
theorem mildD : Mild (srcD d ob av) where
  ok := fun {H H'} h e => by
    show H' d = _
    rw [show H' d = H d from e]
    exact h
  yl := fun {H H' i v} h k => let ⟨a, b, q, h1, h2, h3⟩ := h; ⟨a, b, q, h1, h2, k _ _ h3⟩
theorem goodD (hh : X.A.handled = none) (hx : X.ex = []) (h0 : ∀ a, X.s_0.heap.get? a = none → X.H_0 a = none) : Good X X.A.in1.in1 mkD := by
  rintro _ _ ⟨d, ob, av, rfl, rfl⟩
  refine ⟨mildD, fun {pins σ H s} I ok => ⟨⟨ob, (dict_at I ok).2.1⟩, fun it z => stepsD hh hx h0 ?_⟩⟩
  cases e : X.s_0.heap.get? it with
  | none => rfl
  | some o =>
    obtain ⟨o', e'⟩ := I.base.there it o e (by rw [hx]; exact fun z => nomatch z)
    rw [z] at e'
    cases e'
theorem iter_of {P : Program} {w : World} {v : Value} {Q : Value → Shared → Prop} (h : ∀ {A : Around} {Q' : Value → Shared → Prop} {E : Value → Shared → Prop}, (∀ r s', Q r s' → Q' r s') → wpAny (model P w) A (pyIter v) Q' E s) : wpAny (model P w) A (call (.builtin "iter") [v]) Q E s := by
  apply Calls.call_function_entry (by decide +kernel) (by decide +kernel) PySem.W.kdk_entry_iter (PySem.W.kdk_args_iter _)
  have one : (Builtin.«iter» ⟨[v], []⟩ : Sem PySem.Fin) = (do PySem.ret (← pyIter v)) := by first | rfl | kernel_rfl
  rw [one]
  exact wpAny_bind (h fun r s' q => wpAny_pure ⟨_, rfl, q⟩)
theorem call_iterD : CallR X (.builtin "iter") fun xs H Q => ∃ u Z, xs = [u] ∧ mkD u Z ∧ Z.ok H ∧ ∀ it, H it = none → Q (.ref it) (upd H it (Z.at it 0)) := by
  rintro pins s σ H _ _ Q I r ⟨_, _, rfl, ⟨d, ob, av, rfl, rfl⟩, ok, q⟩
  cases Vals.ref1 r
  obtain ⟨no, g, ex, es, ep, data, size, _⟩ := dict_at I ok
  refine iter_of fun up => wpAny_pyIter_dict_raw no ⟨ob, g, ex, data⟩ (up _ _ ?_)
  have here := Heap.get?_push_size s.heap (o := { cls := .type "dict_keyiterator", data := .fields #[.ref d, .int 0 0, .int es.size 0, .int ep 0] }) rfl
  exact ⟨.ref _, _, I.laid (t' := s.toks) (fun _ _ e => Heap.get?_push_of_some _ e) (Nat.le_refl _) (srcD_ok ⟨es, ep, data, size, _, here, rfl, rfl⟩), rfl, q _ (I.hok.fresh (Nat.le_refl _))⟩
end
def rdD : W → Option (List W)
  | .dF kvs => if kvs.length ≤ sz then some (kvs.map fun p => keyW p.1) else none
  | _ => none
theorem rdD_ok {K : PySem.W.Frag} {mg : Str → Option Value} : RdOk K mg mkD rdD := by
  intro io M H w v zs R e
  unfold rdD at e
  split at e
  · rename_i kvs
    split at e
    · rename_i few
      cases e
      obtain ⟨d, ob, av, rfl, hd, hn, rr⟩ := (show Rn K mg io M H (.dF kvs) v from .inl R).dF
      have hl : kvs.length = av.length := rr.length
      refine ⟨srcD d ob av, ⟨d, ob, av, rfl, rfl⟩, hd, by simp [srcD, hl], by simpa using few, fun {io' M' H'} p nt => ⟨p.keep _ _ hd hn, fun ys len al => ?_⟩⟩
      refine ⟨by rw [List.length_map, hl]; exact len.symm, fun i w v h1 h2 => ?_⟩
      obtain ⟨k, u, q, h3, rfl, h4⟩ := al i v h2
      have hk : (kvs.map (·.1))[i]? = some k := by rw [rr.1, List.getElem?_map, h3]; rfl
      rw [List.getElem?_map] at h1 hk
      cases e : kvs[i]? with
      | none => rw [e] at h1; cases h1
      | some y =>
        rw [e] at h1 hk
        cases h1
        cases hk
        exact rw_keyW h4 fun z => by
          obtain ⟨o, ho, hno⟩ := nt q z
          exact Nt.of ho hno _ h4
    · cases e
  · cases e
theorem objOk_alive {P : Program} {w : World} {H : Hp} {h : Heap} {a : Addr} {o : HO} (x : ObjOk P w H h a o) : ∃ u, h.get? a = some u := by
  cases o with
  | lst xs => exact let ⟨_, _, _, _, e⟩ := x; ⟨_, e⟩
  | tup xs => exact let ⟨_, _, _, o, e, _⟩ := x; ⟨o, e⟩
  | dK kvs => exact let ⟨_, _, _, _, o, _, _, e, _⟩ := x; ⟨o, e⟩
  | dT kvs => exact let ⟨_, _, _, _, o, _, _, e, _⟩ := x; ⟨o, e⟩
  | set S n => exact let ⟨o, _, _, _, e, _⟩ := x; ⟨o, e⟩
  | ins C dx fs => exact let ⟨_, _, _, e, _⟩ := x; ⟨_, e⟩
  | own y => exact x
  | xd fs => exact let ⟨_, ⟨o, _, _, e, _⟩, _⟩ := x; ⟨o, e⟩
  | rng lo hi => exact let ⟨_, _, _, e⟩ := x; ⟨_, e⟩
  | frz ob u => exact ⟨_, x.1⟩
  | tbl ps => exact ⟨_, x⟩
  | met f y => exact ⟨_, x⟩
  | ext φ => exact x.2.1
theorem defH {K : PySem.W.Frag} {mg : Str → Option Value} {P : Program} {w : World} {base : Heap} {x qual : Str} {st : Stmt} {f : Addr} {fd : FuncData} {N ps : List Str} {k n : Nat} {body : Mo Fl} (F : Fun K x qual st f fd) (S : FnScope N ps (defScope st)) (hn : N.length = n)
    (hb : ∀ (cdv : Value) (A : Around) (outer : List Env) (s : Shared) (H : Hp) (E : XK), (∀ a, s.heap.get? a = none → H a = none) → Room k (A.deeper (envOfC qual (defScope st) s.heap.objs.size f cdv)) →
      Pess (cxOf (L2.CX P w) P w K mg base N qual (defScope st) f cdv A outer s H E) ea0 (fun cls d _ H => E cls d H) (defBody st) body) : FnM P w K mg base (k + 1) f fd ps (fnM n body) := by
  refine ⟨fun vs H Q E h => h.1, ?_⟩
  intro A outer s H args us vs Q E room e0 bt rv sp
  obtain ⟨_, _, _, _, _, _, cdv, _, _, rfl, lk, hcd⟩ := F.ex
  have born : ∀ b o, base.get? b = some o → s.heap.get? b = some o := fun b o e => (e0.bs b o e).1
  have kin := e0.mod.kin.keeps born
  have dead : ∀ a, s.heap.get? a = none → H a = none := fun a z => by
    cases e : H a with
    | none => rfl
    | some o =>
      obtain ⟨u, hu⟩ := objOk_alive (e0.hok a o e)
      rw [z] at hu
      cases hu
  refine codeAny_call_function room.depth (kin _ _ lk) rfl S.co S.gen rfl (PySem.W.codeRec_of kin hcd) (bt _ _ _ _ (wpAny_newFunctionEnv_cells S.kind (par_lives S) ?_))
  rintro _ rfl s1 x
  obtain ⟨t, p, rf⟩ := (hb cdv A outer s H E dead (room.deeper _)).ex
  have few : ps.length ≤ n := by rw [← hn, ← S.pre]; exact List.length_take_le' _ _
  refine ⟨(e0.mod.nolimit.keeps born).keeps x.toInCall.keep, codeAny_func (wpAny_mono (p.run [] s1 _ H _ (inv_start S room.hd e0 sp.1 rv x) (spM_body hn few rf sp)) (fun fl s' h => ?_) fun _ _ h => h)⟩
  have out := body_end rfl rfl h
  cases fl <;> exact out
end Z
set_option linter.all false
set_option Elab.async false
set_option maxRecDepth 100000
namespace Z
open PySem PySem.Spec PyProof.Rows L2
abbrev FunE (K : PySem.W.Frag) (x qual : Str) (st : Stmt) (f : Addr) (fd : FuncData) (E : Addr) : Prop := L2.FunD K x qual (defArgs st) (defBody st) (defScope st) [.ref E] [] f fd
section
variable {P : Program} {w : World} {K : PySem.W.Frag} {mg : Str → Option Value} {base : Heap} {x qual : Str} {st : Stmt} {f E : Addr} {fd : FuncData} {N ps : List Str} {k n : Nat} {body : Mo Fl}
theorem funE_mk {oc kV doc pm cdv ct tc : Value} {od an td : Option Addr} {osl ts : Array (Option Value)} {T : Addr} {tn : Nat} (l : K.lookup f = some ⟨oc, od, .func (PySem.W.fnOf x qual (defArgs st) (defBody st) (defScope st) (.ref T) kV doc pm an cdv ct), osl⟩) (c : PySem.W.codeIn K cdv qual = true) (k : PySem.W.keepIn K (.ref f) = true)
    (t : K.lookup T = some ⟨tc, td, .seq #[.ref E] tn, ts⟩) : FunE K x qual st f (PySem.W.fnOf x qual (defArgs st) (defBody st) (defScope st) (.ref T) kV doc pm an cdv ct) E :=
  ⟨⟨oc, od, .ref T, kV, doc, pm, an, cdv, ct, osl, rfl, l, c, .inr ⟨by simp, T, _, [.ref E], tn, rfl, t, rfl, .cons rfl .nil⟩, .inl rfl⟩, k⟩
abbrev BindE (x qual : Str) (st : Stmt) (ps : List Str) (n j : Nat) : Prop := ∀ (T : Addr) (kV doc pm : Value) (an : Option Addr) (cdv ct : Value) (us its : List Value), us.length = n → its.length = 1 →
  ∃ k, bindArgs (PySem.W.fnOf x qual (defArgs st) (defBody st) (defScope st) (.ref T) kV doc pm an cdv ct) ⟨us, []⟩ = seqItems? (.ref T) >>= k ∧ k (some its.toArray) = pure (ps.zip (us ++ its.drop j))
theorem FunE.all (F : FunE K x qual st f fd E) (h : BindE x qual st ps ps.length 1) : Binds K fd ps [] := by
  obtain ⟨ds, r, b⟩ := L2.FunD.binds1 F ps.length 1 (by simp) (by simp) h
  cases r
  exact b
theorem FunE.less (F : FunE K x qual st f fd E) (n : Nat) (hn : n + 1 = ps.length) (h : BindE x qual st ps n 0) : Binds K fd ps [.ref E] := by
  obtain ⟨ds, r, b⟩ := L2.FunD.binds1 F n 0 (by simp) (by simpa using hn) h
  obtain ⟨u, rfl, e⟩ := Vals.one r
  cases e
  exact b
theorem defD2 (F : FunE K x qual st f fd E) (S : FnScope N ps (defScope st)) (hn : N.length = n)
    (hb : ∀ (cdv : Value) (A : Around) (outer : List Env) (s : Shared) (H : Hp) (E : XK), Room k (A.deeper (envOfC qual (defScope st) s.heap.objs.size f cdv)) → (A.deeper (envOfC qual (defScope st) s.heap.objs.size f cdv)).units + 150 < cLine →
      Takes (cxOf (L2.CX P w) P w K mg base N qual (defScope st) f cdv A outer s H E) (fun cls d _ H => E cls d H) →
      PassesOwn (model P w) (A.deeper (envOfC qual (defScope st) s.heap.objs.size f cdv)) (envOfC qual (defScope st) s.heap.objs.size f cdv) (cxOf (L2.CX P w) P w K mg base N qual (defScope st) f cdv A outer s H E).xe →
      Pess (cxOf (L2.CX P w) P w K mg base N qual (defScope st) f cdv A outer s H E) ea0 (fun cls d _ H => E cls d H) (defBody st) body) : FnM P w K mg base (k + 1) f fd ps (fnM n body) := by
  obtain ⟨_, _, _, _, _, _, _, cdv, _, _, rfl, lk, hcd, _, _⟩ := F.ex
  refine ⟨fn_of lk hcd S (fun vs H Q E h => h.1) fun A outer s H vs Q E hr sp => ?_⟩
  obtain ⟨t, p, rf⟩ := (hb cdv A outer s H E hr (by have := hr.un; omega) (takes_of rfl rfl rfl rfl) (passes_of rfl)).ex
  exact ⟨t, p, spM_body hn (by rw [← hn, ← S.pre]; exact List.length_take_le' _ _) rf sp⟩
theorem defH2 (F : Fun K x qual st f fd) (S : FnScope N ps (defScope st)) (hn : N.length = n)
    (hb : ∀ (cdv : Value) (A : Around) (outer : List Env) (s : Shared) (H : Hp) (E : XK), (∀ a, s.heap.get? a = none → H a = none) → Room k (A.deeper (envOfC qual (defScope st) s.heap.objs.size f cdv)) → (A.deeper (envOfC qual (defScope st) s.heap.objs.size f cdv)).units + 150 < cLine →
      Takes (cxOf (L2.CX P w) P w K mg base N qual (defScope st) f cdv A outer s H E) (fun cls d _ H => E cls d H) →
      PassesOwn (model P w) (A.deeper (envOfC qual (defScope st) s.heap.objs.size f cdv)) (envOfC qual (defScope st) s.heap.objs.size f cdv) (cxOf (L2.CX P w) P w K mg base N qual (defScope st) f cdv A outer s H E).xe →
      Pess (cxOf (L2.CX P w) P w K mg base N qual (defScope st) f cdv A outer s H E) ea0 (fun cls d _ H => E cls d H) (defBody st) body) : FnM P w K mg base (k + 1) f fd ps (fnM n body) :=
  defH F S hn fun cdv A outer s H E hk hr => hb cdv A outer s H E hk hr (by have := hr.un; omega) (takes_of rfl rfl rfl rfl) (passes_of rfl)
end
theorem defItD {P : Program} {w : World} {K : PySem.W.Frag} {mg : Str → Option Value} {base : Heap} {x qual fl self : Str} {st : Stmt} {f C : Addr} {fd : FuncData} {p1 p2 p3 p4 p5 : Pos} (F : Fun K x qual st f fd) (S : FnScope [self] [self] (defScope st))
    (hb : defBody st = [.Return (some (.Call (.Name "iter" p1) [.Attribute (.Name self p2) fl p3] [] p4)) p5]) (hC : Cls K C) (hno : NoAttr K C fl) (hm : mg "iter" = none)
    (hloc : (defScope st).names.lookup self = some .local) (hgl : ∀ (n : Addr) (cd : Value), (envOfC qual (defScope st) n f cd).kindOf "iter" = some .globalImplicit)
    (hat : ∀ env, attributeBase (.Name self p2) fl env (eval (.Name self p2) env) = eval (.Name self p2) env) (hst : ∀ env, starEach [.Attribute (.Name self p2) fl p3] env = (false, eval (.Attribute (.Name self p2) fl p3) env) :: starEach [] env)
    (hd : (self == ("__debug__" : Str)) = false := by decide) (hcd : (self == ("__classdict__" : Str)) = false := by decide) : FnOk P w K mg base (L2.CX P w) 1 f fd [self] (spIt C fl mkD) :=
  defItS F S hb hC hno hm hloc hgl hat hst (fun X e => call_iterD) hd hcd
def mListD (nm fl : Str) (m : Fn) (ms : Mo (List RV)) : Mo RV := mListS nm fl rdD m ms
section
variable {X : Cx} {ea : EA} {Wx : WX} {m : Fn} {k n : Nat} {f C fi flA : Addr} {fdI fdL : FuncData} {psI psL : List Str} {nm fl : Str} {e : Expr} {ms : Mo (List RV)} {pos p : Pos}
theorem pee_listD (hk : ∀ a, X.s_0.heap.get? a = none → X.H_0 a = none) (hC : X.mg nm = some (.ref C)) (hc : IterC X.K C fi flA) (FI : FnOk X.prog X.w X.K X.mg X.base (L2.CX X.prog X.w) n fi fdI psI (spIt C fl mkD)) (bI : Binds X.K fdI psI [])
    (FL : FnM X.prog X.w X.K X.mg X.base n flA fdL psL m) (hp : psL.length = 1) (bL : Binds X.K fdL psL []) (hr : Room (n + 3) X.A) (hm : X.mg "list" = none) (ha : Pea X ea Wx [e] ms) (hx : X.ex = [] := by rfl) (hg : Gl X "list" := by rfl) (hv : bootBuiltins "list" = some (.type "list") := by decide +kernel)
    (st : starEach [e] X.env = (false, eval e X.env) :: starEach [] X.env := by rfl) (npl : (backTo pos (starEach [] X.env)).any (·.1) = false := by rfl) : Pee X ea Wx (.Call (.Name "list" p) [e] [] pos) (mListD nm fl m ms) :=
  pee_listS hC rdD_ok (goodD hr.hd hx hk) ⟨hc, FI, bI, FL, hp, bL⟩ hr hm ha hg hv st npl
end
theorem dfl_empty {K : PySem.W.Frag} {mg : Str → Option Value} {E : Addr} {td : Option Addr} {n : Nat} {ts : Array (Option Value)} (e : K.lookup E = some ⟨.type "tuple", td, .seq #[] n, ts⟩) : Dfl K mg [.tup []] [.ref E] := fun io M H => by
  refine Rws.one (.tup (vs := []) (.inr ⟨⟨_, #[], n, e, rfl, rfl, Nat.zero_le _, .nil⟩, rfl⟩) rfl fun i w v h => by simp at h)
end Z
set_option linter.all false
set_option Elab.async false
set_option maxRecDepth 100000
namespace Z
open PySem PySem.Spec PyProof.Rows L2
section
variable {r : List SV} {G : List Cell} {s : S} {m mk mv : Mo RV} {ms : Mo (List RV)} {mi : Mo Wk} {t : W → Mo Unit} {tt : Mo Bool} {body : MB} {ow vs : List Nat} {acc : KVs} {k : Wk} {w : W} {kvs : KVs}
@[simp] theorem mIterD_e : mIterD m ⟨r, G⟩ = bnd m (fun x => bnd (look (settle x)) fun w => match w with
  | .dF kvs => Z.ret ⟨kvs.map fun p => keyW p.1, none⟩
  | _ => stk) ⟨r, G⟩ := rfl
@[simp] theorem mDcF_e : mDcF ow vs mi t tt body ⟨r, G⟩ = bnd mi (fun k s => match clL vs t tt body k k.ws [] (wipeS ow s) with
  | some (kvs, s') => some (.ok (.val (.dF kvs)), wipeS ow s')
  | none => none) ⟨r, G⟩ := rfl
@[simp] theorem clM_e : clM vs mi t tt body acc ⟨r, G⟩ = match mi ⟨r, G⟩ with
  | some (.ok k, s1) => clL vs t tt body k k.ws acc (wipeS vs s1)
  | _ => none := rfl
@[simp] theorem putD_e : putD mk mv acc ⟨r, G⟩ = match (bnd mk fun x => freeze (settle x)) ⟨r, G⟩ with
  | some (.ok kw, s1) => match (bnd mv fun x => freeze (settle x)) s1 with
    | some (.ok vw, s2) => match tkOf kw with
      | some ks => if acc.length < sz then some (putW acc ks vw, s2) else none
      | none => none
    | _ => none
  | _ => none := rfl
@[simp] theorem deref_dF : derefW s (.dF kvs) = some (.dF kvs) := rfl
@[simp] theorem look_dF : look (.val (.dF kvs)) ⟨r, G⟩ = some (.ok (.dF kvs), ⟨r, G⟩) := rfl
@[simp] theorem mListD_e {nm fl : Str} {f : Fn} : mListD nm fl f ms ⟨r, G⟩ = bnd ms (fun xs => bnd (freezeAll xs) fun ws => listO nm fl rdD f ws) ⟨r, G⟩ := rfl
@[simp] theorem fLenD_e : fLenD [.dF kvs] = some (.imm (.int (kvs.length : Nat))) := rfl
@[simp] theorem rdD_e : rdD (.dF kvs) = if kvs.length ≤ sz then some (kvs.map fun p => keyW p.1) else none := rfl
theorem putW_len {ks : List Key} : (putW acc ks w).length ≤ acc.length + 1 := by
  unfold putW
  split <;> simp
variable {γ : Type} {e : γ → W}
theorem cl_fold (hk : k.ok s) (p : γ → Bool) (g : γ → KVs → KVs) (c : Nat) (hg : ∀ x acc, (g x acc).length ≤ acc.length + c) : ∀ (xs : List γ) (acc : KVs),
    (∀ x ∈ xs, ∀ acc : KVs, acc.length + c ≤ sz → ∃ s1, (bnd (t (e x)) fun _ => tt) s = some (.ok (p x), s1) ∧ (p x = true → ∃ s2, body acc s1 = some (g x acc, s2) ∧ wipeS vs s2 = s) ∧ (p x = false → wipeS vs s1 = s)) →
    acc.length + c * xs.length ≤ sz → clL vs t tt body k (xs.map e) acc s = some ((xs.filter p).foldl (fun a x => g x a) acc, s)
  | [], acc, _, _ => by
    unfold clL
    exact if_pos hk
  | x :: xs, acc, h, z => by
    rw [List.length_cons, Nat.mul_succ] at z
    obtain ⟨s1, e1, yes, no⟩ := h x (List.mem_cons_self ..) acc (by omega)
    have rest := fun a => cl_fold hk p g c hg xs a fun y hy => h y (List.mem_cons_of_mem _ hy)
    rw [List.map_cons]
    unfold clL
    rw [if_pos hk, e1]
    cases b : p x with
    | true =>
      obtain ⟨s2, e2, e3⟩ := yes b
      simp only [e2, e3]
      rw [rest _ (by have := hg x acc; omega), List.filter_cons_of_pos b, List.foldl_cons]
    | false =>
      simp only [no b]
      rw [rest _ (by omega), List.filter_cons_of_neg (by simp [b])]
end
def kT (t : List Int) : List Key := t.map Sum.inl
def rowsD (ts : List (List Int)) : KVs := ts.map fun t => (kT t, .bl true)
theorem kT_inj {a b : List Int} : kT a = kT b ↔ a = b := by
  constructor
  · intro h
    unfold kT at h
    induction a generalizing b with
    | nil => cases b with
      | nil => rfl
      | cons y b => simp at h
    | cons x a ih => cases b with
      | nil => simp at h
      | cons y b =>
        rw [List.map_cons, List.map_cons, List.cons.injEq] at h
        rw [Sum.inl.inj h.1, ih h.2]
  · rintro rfl
    rfl
@[simp] theorem kW_kT (t : List Int) : (kT t).map kW = t.map W.int := by
  unfold kT
  rw [List.map_map]
  rfl
theorem keysOf_ints : ∀ t : List Int, keysOf (t.map W.int) = some (kT t)
  | [] => rfl
  | x :: t => by
    rw [List.map_cons]
    unfold keysOf
    rw [keysOf_ints t]
    rfl
theorem tkOf_ints {t : List Int} (h : t ≠ []) : tkOf (.tup (t.map W.int)) = some (kT t) := by
  cases t with
  | nil => exact absurd rfl h
  | cons x t =>
    rw [List.map_cons]
    unfold tkOf
    exact keysOf_ints (x :: t)
theorem valW_rows (ts : List (List Int)) (t : List Int) : (valW (rowsD ts) (kT t)).isSome = decide (t ∈ ts) := by
  unfold valW rowsD
  rw [Option.isSome_map, Bool.eq_iff_iff, List.find?_isSome]
  simp only [List.mem_map, decide_eq_true_eq]
  constructor
  · rintro ⟨_, ⟨a, m, rfl⟩, e⟩
    rw [← kT_inj.mp e]
    exact m
  · exact fun m => ⟨_, ⟨t, m, rfl⟩, rfl⟩
theorem fIn_rows (neg : Bool) (ts : List (List Int)) {t : List Int} (h : t ≠ []) : fIn neg (.tup (t.map W.int)) (.dF (rowsD ts)) = some (.imm (.bl (decide (t ∈ ts) != neg))) := by
  have : fIn neg (.tup (t.map W.int)) (.dF (rowsD ts)) = fInD neg (.tup (t.map W.int)) (.dF (rowsD ts)) := by
    cases neg <;> rfl
  rw [this]
  show ((tkOf (.tup (t.map W.int))).map fun k => valW (rowsD ts) k).map (fun r => OR.imm (.bl (r.isSome != neg))) = _
  rw [tkOf_ints h]
  simp [valW_rows]
def addT (ts : List (List Int)) (t : List Int) : List (List Int) := if t ∈ ts then ts else ts ++ [t]
theorem putW_rows (ts : List (List Int)) (t : List Int) : putW (rowsD ts) (kT t) (.bl true) = rowsD (addT ts t) := by
  unfold putW addT
  have any : ((rowsD ts).any fun kv => decide (kv.1 = kT t)) = decide (t ∈ ts) := by
    unfold rowsD
    rw [List.any_map, Bool.eq_iff_iff]
    simp [kT_inj]
  rw [any]
  by_cases h : t ∈ ts
  · simp only [h, decide_true, if_true]
    unfold rowsD
    rw [List.map_map]
    refine List.map_congr_left fun x _ => ?_
    simp only [Function.comp]
    split
    · rename_i q
      rw [q]
    · rfl
  · simp only [h, decide_false, if_false]
    unfold rowsD
    simp
theorem fold_rows : ∀ (xs ts : List (List Int)), xs.foldl (fun a t => putW a (kT t) (.bl true)) (rowsD ts) = rowsD (xs.foldl addT ts)
  | [], ts => rfl
  | x :: xs, ts => by
    rw [List.foldl_cons, putW_rows, fold_rows xs, List.foldl_cons]
theorem addT_mem {ts : List (List Int)} {t u : List Int} : u ∈ addT ts t ↔ u ∈ ts ∨ u = t := by
  unfold addT
  split
  · rename_i h
    exact ⟨.inl, fun z => z.elim id fun q => q ▸ h⟩
  · simp
theorem fold_mem : ∀ (xs ts : List (List Int)) (u : List Int), u ∈ xs.foldl addT ts ↔ u ∈ ts ∨ u ∈ xs
  | [], ts, u => by simp
  | x :: xs, ts, u => by
    rw [List.foldl_cons, fold_mem xs, addT_mem, List.mem_cons, or_assoc]
theorem fold_new : ∀ (xs ts : List (List Int)), xs.Nodup → (∀ x ∈ xs, x ∉ ts) → xs.foldl addT ts = ts ++ xs
  | [], ts, _, _ => by simp
  | x :: xs, ts, nd, h => by
    have nx := h x (List.mem_cons_self ..)
    rw [List.foldl_cons, show addT ts x = ts ++ [x] from if_neg nx, fold_new xs _ (List.nodup_cons.mp nd).2 fun y hy z => ?_, List.append_assoc]
    · rfl
    · rcases List.mem_append.mp z with z | z
      · exact h y (List.mem_cons_of_mem _ hy) z
      · rw [List.mem_singleton.mp z] at hy
        exact (List.nodup_cons.mp nd).1 hy
theorem rowsD_keys (ts : List (List Int)) : (rowsD ts).map (fun p => keyW p.1) = ts.map fun t => W.tup (t.map W.int) := by
  unfold rowsD keyW
  rw [List.map_map]
  simp [Function.comp_def]
@[simp] theorem rowsD_length (ts : List (List Int)) : (rowsD ts).length = ts.length := List.length_map ..
end Z
set_option linter.all false
set_option Elab.async false
set_option maxRecDepth 100000
namespace Z
open PySem PySem.Spec PyProof.Rows L2
def mListK (ms : Mo (List RV)) : Mo RV := bnd ms fun xs => bnd (lookAll xs) fun ws => match ws with
  | [.dF kvs] => ret (.own (.lst (kvs.map fun p => keyW p.1)))
  | _ => stk
section
variable {K : PySem.W.Frag} {mg : Str → Option Value} {ea : EA} {Wx : WX} {io : List Addr} {Fr : Addr → Prop} {s s' : S} {σ : L2.St} {H : Hp}
theorem keys_rw {kvs : List (List Key × W)} {av : List (List Key × V)} {bs : List Addr} (S0 : Sim K mg ea io Fr s σ H) (r : Rkv K mg io (Ms io Fr s σ) H kvs av) (k : IsKeys H av bs) : Rws K mg io (Ms io Fr s σ) H (kvs.map fun p => keyW p.1) (bs.map V.ref) := by
  have l1 : kvs.length = av.length := r.length
  have l2 : av.length = bs.length := Paired.length k
  refine ⟨by simp [l1, l2], fun i w v h1 h2 => ?_⟩
  rw [List.getElem?_map] at h1 h2
  cases e1 : kvs[i]? with
  | none => rw [e1] at h1; cases h1
  | some y =>
    cases e2 : bs[i]? with
    | none => rw [e2] at h2; cases h2
    | some b =>
      rw [e1] at h1
      rw [e2] at h2
      cases h1
      cases h2
      have il := get_lt e1
      have ia : i < av.length := by omega
      have kk : (kvs.map (·.1))[i]? = (av.map (·.1))[i]? := by rw [r.1]
      rw [List.getElem?_map, List.getElem?_map, e1, List.getElem?_eq_getElem ia] at kk
      have kk : y.1 = av[i].1 := Option.some.inj kk
      have lay : H b = some (.tup (av[i].1.map kV)) := paired_at k (List.getElem?_eq_getElem ia) e2
      rw [← kk] at lay
      exact rw_keyW lay fun z => by
        obtain ⟨o, ho, hno⟩ := S0.trkN z
        exact Nt.of ho hno _ lay
theorem ref_listK {ta : TA} {ms : Mo (List RV)} (ha : RefA K mg ea Wx ta ms) :
    RefE K mg ea Wx (tCB (fun xs H Q => ∃ d kvs, xs = [V.ref d] ∧ Rd H d (.dT kvs) ∧ ∀ p bs, H p = none → IsKeys H kvs bs → Q (.ref p) (upd H p (.lst (bs.map V.ref)))) ta) (mListK ms) := by
  intro σ H io Fr s S0 r0 s' e Q hok hex
  refine arg2 ha S0 e hex fun xs vs s1 H1 io1 e2 px R1 => ?_
  rcases bnd_some e2 with ⟨x, e3, rfl⟩ | ⟨ws, s2, e3, e4⟩
  · obtain ⟨_, _, q, _⟩ := lookAll_ok px.1 R1 e3
    cases q
  · obtain ⟨rfl, ws', q, r2⟩ := lookAll_ok px.1 R1 e3
    cases q
    split at e4
    · rename_i kvs
      cases e4
      obtain ⟨v, rfl, r⟩ := p1 r2
      obtain ⟨d, ob, av, rfl, hd, _, rr⟩ := r.dF
      refine ⟨d, av, rfl, .inr ⟨ob, hd⟩, fun p bs hp hk => ?_⟩
      exact OQ.post (z := .newl (kvs.map fun p : List Key × W => keyW p.1)) px.1 px.2 (fun v H3 io3 q => hok _ rfl v H3 io3 q) p (bs.map V.ref) hp (keys_rw px.1 rr hk)
    · cases e4
end
section
variable {X : Cx} {ea : EA} {Wx : WX} {e : Expr} {es : List Expr} {ms : Mo (List RV)} {pos p : Pos}
theorem pee_listK (hm : X.mg "list" = none) (ha : Pea X ea Wx (e :: es) ms) (hc : X.calm = true := by rfl) (hg : Gl X "list" := by rfl) (hv : bootBuiltins "list" = some (.type "list") := by decide +kernel)
    (he : starEach (e :: es) X.env = (false, eval e X.env) :: starEach es X.env := by rfl) (hpl : (backTo pos (starEach es X.env)).any (·.1) = false := by rfl) : Pee X ea Wx (.Call (.Name "list" p) (e :: es) [] pos) (mListK ms) :=
  let ⟨_, q, r⟩ := ha.ex; ⟨_, pe_callTy (call_list_dT hc) hg hm hv q (by decide) (by decide) he hpl, ref_listK r⟩
end
section
variable {X : Cx} {ea : EA} {Wx : WX} {m : Fn} {k n : Nat} {f C : Addr} {fd : FuncData} {ps : List Str} {nm : Str} {e : Expr} {me : Mo RV} {pos pos' : Pos}
def mAugO (i : Nat) (nm : Str) (m : Fn) (me : Mo RV) : Mo Fl := mAsg i (mBinS (fun x y => quiet (mOwn2 nm [.own nm] m x y)) (mName i) me)
theorem own2_use {io : List Addr} {Fr : Addr → Prop} {s s' : S} {σ : L2.St} {H : Hp} {x y : RV} {vx vy : V} {r0 : Except Ex RV} (hC : X.mg nm = some (.ref C)) (ic : C8.InsC X.K C) (hn : PySem.W.notFirst X.K C (.ref C) = true)
    (S0 : Sim X.K X.mg ea io Fr s σ H) (rx : RvR X.K X.mg io (Ms io Fr s σ) σ H x vx) (ry : RvR X.K X.mg io (Ms io Fr s σ) σ H y vy) (e : mOwn2 nm [.own nm] m x y s = some (r0, s')) :
    ∃ a dx fs b dy gs, vx = .ref a ∧ H a = some (.ins C dx fs) ∧ vy = .ref b ∧ H b = some (.ins C dy gs) ∧ ∀ (Wx : WX) (Q : VK), (∀ z, r0 = .ok z → ∀ v H' io', PostE X.K X.mg ea io Fr s σ H s' io' H' z v → Q v H') →
      (∀ z, r0 = .error z → ∀ cls d H' io', PostX X.K X.mg ea io Fr s σ H s' σ io' H' z cls d → Wx cls d σ H') → spM X.K X.mg 2 m [vx, vy] H Q (WE Wx σ) := by
  have NT : NfTab X.K X.mg C [.own nm] := NfTab.own hC ic hn NfTab.nil
  rcases bnd_some e with ⟨z, e3, _⟩ | ⟨ws, s2, e3, e4⟩
  · obtain ⟨_, _, _, _, q, _⟩ := freezeAll_ok S0 (.cons rx (.cons ry .nil)) e3
    cases q
  obtain ⟨_, m2, S2, ws', q, r2⟩ := freezeAll_ok S0 (.cons rx (.cons ry .nil)) e3
  cases q
  rcases bnd_some e4 with ⟨z, e5, _⟩ | ⟨_, s3, e5, e6⟩
  · obtain ⟨_, q, _⟩ := chkO_ok S2 hC NT r2 e5
    cases q
  have T2 : Stp io (Ms io Fr s σ) Fr H io (Ms io Fr s2 σ) H := Stp.refl.less m2
  unfold chkO at e5
  split at e5
  · rename_i wx wy
    split at e5
    · rename_i nm' fs ct hd hd2
      split at e5
      · rename_i hcc
        obtain ⟨rfl, hin⟩ := hcc
        obtain rfl := List.mem_singleton.mp hin
        cases e5
        obtain ⟨v1, rr, h0, h1, h2⟩ := r2.cons_inv
        cases h0
        obtain ⟨v2, rr2, h0, h3, h4⟩ := h2.cons_inv
        cases h0
        obtain ⟨a, C', dx, us, hva, hm, hH, rk⟩ := (deref_ok S2 h1 hd).obj
        rw [hC] at hm
        cases hm
        obtain ⟨wyy, k1, k2⟩ := Option.bind_eq_some_iff.mp hd2
        cases wyy <;> simp [tyOfW] at k2
        subst k2
        obtain ⟨b, C', dy, gs, hvb, hm, hH2, rk2⟩ := (deref_ok S2 h3 k1).obj
        rw [hC] at hm
        cases hm
        exact ⟨a, dx, us, b, dy, gs, hva, hH, hvb, hH2, fun Wx Q ok ex => spM_use (n := 2) S2 r2 rfl e6 (fun x q v H' io' p => ok x q v H' io' (p.trans T2)) fun x q cls d H' io' p => ex x q cls d H' io' ⟨p.1, T2.trans p.2.1, p.2.2⟩⟩
      · cases e5
    · cases e5
  · cases e5
theorem pes_augO {op : Operator} (i : Nat) {x : Str} (hN : X.N.Nodup) (hi : X.N[i]? = some x) (hC : X.mg nm = some (.ref C)) (F : FnM X.prog X.w X.K X.mg X.base k f fd ps m) (hp : ps.length = 2) (hr : Room k X.A) (hb : Binds X.K fd ps []) (hc : PySem.W.selfFirst X.K C = true) (ic : C8.InsC X.K C)
    (hs : PySem.W.findIn X.K (.ref C) (PySem.dunderI op.info.2) = some (some (.ref f))) (hf : PySem.W.isFn X.K (.ref f) = true) (hn : PySem.W.notFirst X.K C (.ref C) = true) (he : Pee X ea Wx e me) (hx : Loc X.env.scope x := by first | exact Or.inl rfl | exact Or.inr rfl)
    (hfn : X.fn x = true ∨ X.env.scope.names.lookup x = some .local := by first | exact .inl rfl | exact .inr rfl) : Pes X ea Wx (.AugAssign (.Name x pos') op e pos) (mAugO i nm m me) := by
  let t : TIp := fun x y H Q => ∃ a dx fs b dy gs, x = .ref a ∧ H a = some (.ins C dx fs) ∧ y = .ref b ∧ H b = some (.ins C dy gs) ∧ ∀ σ, spM X.K X.mg ps.length m [x, y] H Q (WE (fun _ _ _ _ => False) σ)
  have P : PIp X op t := by
    intro pins s σ H x y v u Q I rx ry h
    obtain ⟨a, dx, fs, b, dy, gs, rfl, ha, rfl, hb2, q⟩ := h
    cases rx
    cases ry
    obtain ⟨oA, od, J⟩ := inst_of I ha
    obtain ⟨m0, hF⟩ := I.fr
    refine PySem.W.ksp_inplace hF I.ok.mod.kin J hc hs hf ?_
    exact wpAny_mono (run_fnSub ⟨hr, rfl⟩ F hb takes0 I (.cons (show RelV (V.ref a) (Value.ref a) from rfl) (.cons (show RelV (V.ref b) (Value.ref b) from rfl) .nil)) (q σ)) (fun v s' h => back_of h) fun _ _ x => x
  obtain ⟨te, q, rr⟩ := he.ex
  refine ⟨_, ps_aug hN hi hx q P hfn, ref_asg i (ref_opS (r := fun _ => t) (ref_name i) rr ?_)⟩
  intro σ H io Fr s S0 x y vx vy rx ry r0 s' e Q hok hex
  unfold quiet at e
  split at e
  · rename_i z s2 e2
    cases e
    obtain ⟨a, dx, fs, b, dy, gs, rfl, h1, rfl, h2, h3⟩ := own2_use hC ic hn S0 rx ry e2
    refine ⟨a, dx, fs, b, dy, gs, rfl, h1, rfl, h2, fun σ' => ?_⟩
    rw [hp]
    exact h3 (fun _ _ _ _ => False) Q hok (fun z q => by cases q)
  · cases e
end
section
variable {r : List SV} {G : List Cell} {ms : Mo (List RV)} {i : Nat} {nm : Str} {m : Fn} {me : Mo RV}
@[simp] theorem mListK_e : mListK ms ⟨r, G⟩ = bnd ms (fun xs => bnd (lookAll xs) fun ws => match ws with
  | [.dF kvs] => ret (.own (.lst (kvs.map fun p => keyW p.1)))
  | _ => stk) ⟨r, G⟩ := rfl
@[simp] theorem mAugO_e : mAugO i nm m me ⟨r, G⟩ = mAsg i (mBinS (fun x y => quiet (mOwn2 nm [.own nm] m x y)) (mName i) me) ⟨r, G⟩ := rfl
end
end Z
set_option linter.all false
set_option Elab.async false
set_option maxRecDepth 100000
namespace Z
open PySem PySem.Spec PyProof.Rows L2
structure FnIt (P : Program) (w : World) (K : PySem.W.Frag) (mg : Str → Option Value) (base : Heap) (f : Addr) (fd : FuncData) (ps : List Str) (C : Addr) (fl : Str) : Prop where
  run : ∀ (A : Around) (outer : List Env) (s : Shared) (H : Hp) (args : Args) (us : List Value) (a : Addr) (Q : VK), Room 1 A → Env0 P w K mg base A outer s H → BindsTo s fd args (ps.zip us) → Vals [.ref a] us →
    (∃ dx fs d ob av, H a = some (.ins C dx fs) ∧ fs.lookup fl = some (.ref d) ∧ H d = some (.frz ob (.dT av)) ∧ ∀ it, H it = none → s.heap.objs.size ≤ it → Q (.ref it) (upd H it ((srcD d ob av).at it 0))) →
    codeAny (model P w) A (.call (.ref f) args) (CR (L2.CX P w) outer P w H s Q E0) s
end Z
set_option linter.all false
set_option Elab.async false
set_option maxRecDepth 100000
set_option linter.all false
set_option Elab.async false
set_option maxRecDepth 100000
namespace Z
open PySem PySem.Spec PyProof.Rows L2
structure Sl5 (K : PySem.W.Frag) (C : Addr) (n0 n1 n2 n3 n4 : Str) : Prop where
  c : SlX.SCls K C
  s0 : ∃ p, SlX.Slot1 K C n0 p 2
  s1 : ∃ p, SlX.Slot1 K C n1 p 3
  s2 : ∃ p, SlX.Slot1 K C n2 p 1
  s3 : ∃ p, SlX.Slot1 K C n3 p 4
  s4 : ∃ p, SlX.Slot1 K C n4 p 0
end Z
set_option linter.all false
set_option Elab.async false
set_option maxRecDepth 100000
namespace Z
open PySem PySem.Spec PyProof.Rows L2
def SlN (K : PySem.W.Frag) (mg : Str → Option Value) (tab : List (Str × Nat)) (f : Str) : Prop := ∀ nm i, tab.lookup nm = some i → ∃ C, mg nm = some (.ref C) ∧ SlX.SCls K C ∧ ∃ p, SlX.Slot1 K C f p i
theorem SlN.nil {K : PySem.W.Frag} {mg : Str → Option Value} {f : Str} : SlN K mg [] f := fun nm i h => by cases h
theorem SlN.cons {K : PySem.W.Frag} {mg : Str → Option Value} {f nm : Str} {C p : Addr} {i : Nat} {tab : List (Str × Nat)} (hC : mg nm = some (.ref C)) (c : SlX.SCls K C) (s : SlX.Slot1 K C f p i) (r : SlN K mg tab f) : SlN K mg ((nm, i) :: tab) f := fun n j h => by
  rw [List.lookup_cons] at h
  by_cases e : (n == nm) = true
  · rw [e] at h
    cases h
    rw [eq_of_beq e]
    exact ⟨C, hC, c, p, s⟩
  · rw [show (n == nm) = false by simpa using e] at h
    exact r n j h
section
variable {K : PySem.W.Frag} {mg : Str → Option Value} {ea : EA} {Wx : WX} {io : List Addr} {Fr : Addr → Prop} {s s' : S} {σ : L2.St} {H : Hp} {M : Addr → Prop} {nm : Str} {ws : List W} {v : V}
theorem Rn.slt (h : Rn K mg io M H (.slt nm ws) v) : ∃ (a C dx : Addr) (vs : List V), v = .ref a ∧ mg nm = some (.ref C) ∧ H a = some (SlX.SlO a C dx (vs.map some)) ∧ H dx = some (.xd []) ∧ Rws K mg io M H ws vs := by
  rcases h with h | ⟨c, o, a, e, rfl, ha, hc⟩
  · cases h with
    | slt m h n h2 n2 l q => exact ⟨_, _, _, _, rfl, m, h, h2, l, q⟩
  · cases c <;> cases e
end
section
variable {r : List SV} {G : List Cell} {ms : Mo (List RV)} {nm : Str} {ws : List W} {a b c d e : W} {tab : List (Str × Nat)}
@[simp] theorem look_slt : look (.val (.slt nm ws)) ⟨r, G⟩ = some (.ok (.slt nm ws), ⟨r, G⟩) := rfl
@[simp] theorem deref_slt {s : S} : derefW s (.slt nm ws) = some (.slt nm ws) := rfl
end
end Z
set_option linter.all false
set_option Elab.async false
set_option maxRecDepth 100000
set_option linter.all false
set_option Elab.async false
set_option maxRecDepth 100000
set_option linter.all false
set_option Elab.async false
set_option maxRecDepth 100000
namespace Z
open PySem PySem.Spec PyProof.Rows L2
def Sk (i : Int) : Prop := i.natAbs.log2 < 1920
noncomputable instance (i : Int) : Decidable (Sk i) := Classical.propDecidable _
def Mk6 (i : Int) : Prop := 0 ≤ i ∧ i < 1000000
noncomputable instance (i : Int) : Decidable (Mk6 i) := Classical.propDecidable _
def Jk (n : Nat) : Prop := n ≤ 16777216
noncomputable instance (n : Nat) : Decidable (Jk n) := Classical.propDecidable _
def mJs : List (Mo RV) → Str → Mo RV
  | [], acc => ret (.val (.str acc))
  | m :: ms, acc => bnd m fun x => match x with
    | .val (.str y) => if (acc ++ y).length ≤ sz then mJs ms (acc ++ y) else stk
    | _ => stk
section
variable {X : Cx} {K : PySem.W.Frag} {mg : Str → Option Value} {ea : EA} {Wx : WX} {ws : List W} {vs : List V}
structure Pej (X : Cx) (ea : EA) (Wx : WX) (es : List Expr) (ms : List (Mo RV)) : Prop where
  ex : ∃ ts, PJ X es ts ∧ ∀ acc, RefE X.K X.mg ea Wx (fun σ H Q => tJs ts acc σ H fun out H1 => Q (.str out) H1) (mJs ms acc)
end
end Z
set_option linter.all false
set_option Elab.async false
set_option maxRecDepth 100000
namespace Z
open PySem PySem.Spec PyProof.Rows L2
section
variable {r : List SV} {G : List Cell} {m mo me : Mo RV} {ms : List (Mo RV)} {acc a x : Str} {b : Array UInt8} {i : Int} {nm : Str} {w : W} {ws : List W} {f : Str → W → Option OR} {mf : Fn}
@[simp] theorem mJs_nil : mJs [] acc ⟨r, G⟩ = some (.ok (.val (.str acc)), ⟨r, G⟩) := rfl
@[simp] theorem mJs_cons : mJs (m :: ms) acc ⟨r, G⟩ = bnd m (fun x => match x with
    | .val (.str y) => if (acc ++ y).length ≤ sz then mJs ms (acc ++ y) else stk
    | _ => stk) ⟨r, G⟩ := rfl
@[simp] theorem freeze_slt : freeze (.val (.slt nm ws)) ⟨r, G⟩ = some (.ok (.slt nm ws), ⟨r, G⟩) := rfl
end
end Z
set_option linter.all false
set_option Elab.async false
set_option maxRecDepth 100000
namespace Z
open PySem PySem.Spec PyProof.Rows L2
def cod (x : Str) : List Nat := x.cps.toList
def dgs (n : Nat) : List Nat := (Nat.toDigits 10 n).map Char.toNat
theorem dgs_le {k n : Nat} (hk : 1 ≤ k) (hn : n < 10 ^ k) : (dgs n).length ≤ k := by
  unfold dgs
  rw [List.length_map]
  exact digits10_le hk hn
def zT (k n : Nat) : Str := ⟨(List.replicate (k - (dgs n).length) 48 ++ dgs n).toArray⟩
theorem cod_z (k n : Nat) : cod (zT k n) = List.replicate (k - (dgs n).length) 48 ++ dgs n := rfl
theorem z_len {k n : Nat} (hk : 1 ≤ k) (hn : n < 10 ^ k) : (cod (zT k n)).length = k := by
  have := dgs_le hk hn
  rw [cod_z, List.length_append, List.length_replicate]
  omega
end Z
set_option linter.all false
set_option Elab.async false
set_option maxRecDepth 100000
set_option linter.all false
set_option Elab.async false
set_option maxRecDepth 100000
set_option linter.all false
set_option Elab.async false
set_option maxRecDepth 100000
set_option linter.all false
set_option Elab.async false
set_option maxRecDepth 100000
namespace Z
open PySem PySem.Spec PyProof.Rows L2
section
variable {X : Cx} {ea : EA} {Wx : WX} {tg ke ve iter : Expr} {ifs : List Expr} {scope : Scope} {own : List (Str × Nat)} {pos : Pos} {mi : Mo Wk} {t : W → Mo Unit} {l : List Nat} {mt : Mo Bool} {mk mv : Mo RV}
structure BlkD2 (X : Cx) (ea : EA) (tg ke ve : Expr) (ifs : List Expr) (tg1 i1 : Expr) (f1 : List Expr) (scope : Scope) (own : List (Str × Nat)) (v0 v1 : List Nat) (t : W → Mo Unit) (l : List Nat) (mt : Mo Bool) (mi1 : Mo Wk) (t1 : W → Mo Unit) (l1 : List Nat) (mt1 : Mo Bool) (mk mv : Mo RV) : Prop where
  ok : BlkOk X.N X.env.scope scope own
  ne : ∀ w s r s', t w s = some (r, s') → r = .ok ()
  ne1 : ∀ w s r s', t1 w s = some (r, s') → r = .ok ()
  sub : ∀ i ∈ l, i ∈ v0
  sub1 : ∀ i ∈ l1, i ∈ v1
  hv : (∀ i ∈ v0, i ∈ own.map (·.2)) ∧ (∀ i ∈ v1 ++ [], i ∈ own.map (·.2)) ∧ (∀ i ∈ v1 ++ [], i ∉ v0)
  tg : ∀ (s : Shared) (H : Hp) (C : Addr) (cl : List (Str × Addr)) (fp : List Addr), Peg (X.blk s H scope (compEnvC scope cl C X.env) fp) ea tg t l
  ts : ∀ (s : Shared) (H : Hp) (C : Addr) (cl : List (Str × Addr)) (fp : List Addr), Pets (X.blk s H scope (compEnvC scope cl C X.env) fp) ea W0 ifs mt
  it1 : ∀ (s : Shared) (H : Hp) (C : Addr) (cl : List (Str × Addr)) (fp : List Addr), Pei (X.blk s H scope (compEnvC scope cl C X.env) fp) ea W0 tg1 i1 mi1
  tg1 : ∀ (s : Shared) (H : Hp) (C : Addr) (cl : List (Str × Addr)) (fp : List Addr), Peg (X.blk s H scope (compEnvC scope cl C X.env) fp) ea tg1 t1 l1
  ts1 : ∀ (s : Shared) (H : Hp) (C : Addr) (cl : List (Str × Addr)) (fp : List Addr), Pets (X.blk s H scope (compEnvC scope cl C X.env) fp) ea W0 f1 mt1
  ky : ∀ (s : Shared) (H : Hp) (C : Addr) (cl : List (Str × Addr)) (fp : List Addr), Pee (X.blk s H scope (compEnvC scope cl C X.env) fp) ea W0 ke mk
  vl : ∀ (s : Shared) (H : Hp) (C : Addr) (cl : List (Str × Addr)) (fp : List Addr), Pee (X.blk s H scope (compEnvC scope cl C X.env) fp) ea W0 ve mv
end
end Z
set_option linter.all false
set_option Elab.async false
set_option maxRecDepth 100000
set_option linter.all false
set_option Elab.async false
set_option maxRecDepth 100000
set_option linter.all false
set_option Elab.async false
set_option maxRecDepth 100000
set_option linter.all false
set_option Elab.async false
set_option maxRecDepth 100000
namespace Z
open PySem PySem.Spec PySem.Calls PyProof.Rows L2
def DiffH (ks : List (List Key)) : Prop := ∀ w : World, (ks.map fun k => reduceHash (Builtin.Tuple.tupleHashOf (k.map (keyH w)))).Nodup
noncomputable instance (ks : List (List Key)) : Decidable (DiffH ks) := Classical.propDecidable _
end Z
set_option linter.all false
set_option Elab.async false
set_option maxRecDepth 100000
namespace Z
open PySem PySem.Spec PyProof.Rows L2
theorem hu2 {n : Nat} (h : n + 150 < cLine) : n + 2 < cLine := by omega
end Z
set_option linter.all false
set_option Elab.async false
set_option maxRecDepth 100000
set_option linter.all false
set_option Elab.async false
set_option maxRecDepth 100000
namespace Z
open PySem PySem.Spec PyProof.Rows L2
def prV : List V → List (V × V)
  | x :: y :: r => (x, y) :: prV r
  | _ => []
structure Pep (X : Cx) (ea : EA) (pos : Pos) (keys : List (Option Expr)) (values : List Expr) (ms : Mo (List RV)) : Prop where
  ex : ∃ (trs : List (TE × TE)) (ta : TA), PPs X pos keys values trs ∧ RefA X.K X.mg ea W0 ta ms ∧ ∀ (σ : L2.St) (H : Hp) (Q : List (V × V) → Hp → Prop), tPairs trs σ H Q = ta σ H fun vs H' => Q (prV vs) H'
end Z
set_option linter.all false
set_option Elab.async false
set_option maxRecDepth 100000
set_option linter.all false
set_option Elab.async false
set_option maxRecDepth 100000
set_option linter.all false
set_option Elab.async false
set_option maxRecDepth 100000
namespace Z
open PySem PySem.Spec PyProof.Rows L2
structure SupF (X : Cx) (D : Addr) : Prop where
  ks : X.env.kindOf "super" = some .globalImplicit
  kc : X.env.kindOf "__class__" = some .free
  ka : X.env.scope.names.lookup ("self" : Str) = some .local
  n0 : X.N[0]? = some ("self" : Str)
  fn : ∃ f oc od fd osl ar, X.env.func = some f ∧ X.K.lookup f = some ⟨oc, od, .func fd, osl⟩ ∧ (fd.params.posonlyargs ++ fd.params.args).head? = some ar ∧ ar.arg = ("self" : Str)
  code : ∃ cda ccl cdd vs ccs file tf, X.env.code = .ref cda ∧ X.K.lookup cda = some ⟨ccl, cdd, .fields vs, ccs⟩ ∧ vs[2]? = some (.str file tf) ∧ ((X.prog.main.file : Str) == file) = true
  top : (X.prog.main.scope.names.lookup ("super" : Str)).isSome = false
  mg : X.mg "super" = none
  cell : ∃ cc cl cld csl, X.env.cells.lookup ("__class__" : Str) = some cc ∧ X.K.lookup cc = some ⟨cl, cld, .cell (some (.ref D)), csl⟩
structure SupC (K : PySem.W.Frag) (C D g : Addr) (m : Str) : Prop where
  d : ∃ cdD, PySem.W.clsIn K D = some cdD
  sub : PySem.W.mroIn K C (.ref D) = some true
  any : PySem.W.nsIn K cStatics "thirdparty.any" = some none
  at_ : PySem.W.ks_superIn K C D m = some (some (.ref g))
  ty : PySem.W.typeIn K (.ref g) = some (.type "function")
  fi : PySem.W.fnIn K g = true
  nm : (m == ("__class__" : Str)) = false
end Z
set_option linter.all false
set_option Elab.async false
set_option maxRecDepth 100000
namespace Z
open PySem PySem.Spec PyProof.Rows L2
structure ScS (N P : List Str) (sc : Scope) : Prop where
  kind : sc.kind = .function
  co : sc.isCoroutine = false
  gen : sc.isGenerator = false
  nd : N.Nodup
  pre : N.take P.length = P
  par : ∀ x ∈ P, sc.names.lookup x = some .local
  nocell : ∀ y ∈ sc.names, y.2 ≠ .cell
  free : ∀ y ∈ sc.names, y.2 = .free → y.1 = ("__class__" : Str)
end Z
set_option linter.all false
set_option Elab.async false
set_option maxRecDepth 100000
set_option linter.all false
set_option Elab.async false
set_option maxRecDepth 100000
namespace Z
open PySem PySem.Spec PyProof.Rows L2
structure SupK (P : Program) (K : PySem.W.Frag) (mg : Str → Option Value) (x qual : Str) (st : Stmt) (f C g : Addr) (fd : FuncData) (m : Str) : Prop where
  ex : ∃ (cc : Addr) (cl : Value) (cld : Option Addr) (csl : Array (Option Value)) (oc : Value) (od an : Option Addr) (dV kV doc pm ct : Value) (cda : Addr) (osl : Array (Option Value)) (ccl : Value) (cdd : Option Addr) (vs : Array Value) (ccs : Array (Option Value)) (file : Str) (tf : Tok),
    fd = PySem.W.ksFn x qual (defArgs st) (defBody st) (defScope st) dV kV doc pm an (.ref cda) ct cc ∧ K.lookup f = some ⟨oc, od, .func fd, osl⟩ ∧ PySem.W.codeIn K (.ref cda) qual = true ∧ K.lookup cc = some ⟨cl, cld, .cell (some (.ref C)), csl⟩ ∧
      K.lookup cda = some ⟨ccl, cdd, .fields vs, ccs⟩ ∧ vs[2]? = some (.str file tf) ∧ ((P.main.file : Str) == file) = true
  top : (P.main.scope.names.lookup ("super" : Str)).isSome = false
  mgs : mg "super" = none
  sc : SupC K C C g m
structure SupN (N : List Str) (st : Stmt) : Prop where
  ks : (defScope st).names.lookup ("super" : Str) = some .globalImplicit
  kc : (defScope st).names.lookup ("__class__" : Str) = some .free
  ka : (defScope st).names.lookup ("self" : Str) = some .local
  n0 : N[0]? = some ("self" : Str)
  hd : ∃ ar, ((defArgs st).posonlyargs ++ (defArgs st).args).head? = some ar ∧ ar.arg = ("self" : Str)
end Z
set_option linter.all false
set_option Elab.async false
set_option maxRecDepth 100000
namespace Z
open PySem PySem.Spec PyProof.Rows L2
section
variable {K : PySem.W.Frag} {mg : Str → Option Value} {ea : EA} {io : List Addr} {Fr : Addr → Prop} {s s' s1 : S} {σ σ' : L2.St} {H H' H1 : Hp} {Wx : WX}
theorem Sim.more (x : Sim K mg ea io Fr s σ H) (k : ∀ a o, H a = some o → H' a = some o) : Sim K mg ea io Fr s σ H' ∧ Stp io (Ms io Fr s σ) Fr H io (Ms io Fr s σ) H' := by
  have same : ∀ a, Ms io Fr s σ a → H' a = H a := fun a z => by
    obtain ⟨o, e⟩ := x.trk z
    rw [k a o e, e]
  have p : Pers io (Ms io Fr s σ) H io (Ms io Fr s σ) H' := ⟨fun a o e _ => k a o e, fun a z => .inl z, fun _ _ e => e⟩
  refine ⟨x.move p same (fun a z h => x.g.dj a h (.inl z)) (fun a i c z h1 h2 => ?_) fun a z => ?_, p, fun a z => same a (.inr (.inl z)), fun a o e => ⟨o, k a o e⟩⟩
  · obtain ⟨b, o, q1, _, _, q4⟩ := x.own i c h1
    rw [h2] at q1
    cases q1
    exact q4 z
  · obtain ⟨o, e, n⟩ := x.g.fr a (.inl z)
    exact ⟨o, k a o e, n⟩
end
end Z
set_option linter.all false
set_option Elab.async false
set_option maxRecDepth 100000
namespace Z
open PySem PySem.Spec PyProof.Rows L2
def refsZ (o : Obj) : List Addr := match o.data with
  | .seq its _ => its.toList.flatMap He.refV
  | .dict es _ => es.toList.flatMap fun e => He.refV e.val
  | .func fd => He.refV fd.code ++ (He.refV fd.defaults ++ fd.closure.map (·.2))
  | .cls cd => [cd.ns]
  | .fields vs => (match o.cls with
    | .type c => if c = "property" ∨ c = "classmethod" then vs.toList.flatMap He.refV else []
    | _ => [])
  | _ => []
def refsG (g : Addr → Option Obj) (a : Addr) : List Addr := match g a with
  | some o => refsZ o
  | none => []
def newZ : List Addr → Nat → List Addr × Nat
  | [], s => ([], s)
  | a :: r, s => bif s.testBit a then newZ r s else match newZ r (s ||| 2 ^ a) with
    | (l, s') => (a :: l, s')
def bfsZ (g : Addr → Option Obj) : Nat → List Addr → Nat → List Addr
  | 0, fr, _ => fr
  | n + 1, fr, s => match newZ (fr.flatMap (refsG g)) s with
    | (l, s') => fr ++ bfsZ g n l s'
def asZ (g : Addr → Option Obj) (n : Nat) : List Addr := bfsZ g n [mainGlobals, cStatics] (2 ^ mainGlobals ||| 2 ^ cStatics)
theorem ck_at {l : List Bool} (h : (l.all fun b => b) = true) (i : Nat) {b : Bool} (e : l[i]? = some b) : b = true := List.all_eq_true.mp h b (List.mem_of_getElem? e)
theorem ck_d {l : List Bool} {p : Prop} [Decidable p] (h : (l.all fun b => b) = true) (i : Nat) (e : l[i]? = some (decide p)) : p := of_decide_eq_true (ck_at h i e)
def intB (K : PySem.W.Frag) (x : Str) (i : Int) : Bool := match PySem.W.nsIn K mainGlobals x with
  | some (some (.int j _)) => decide (j = i)
  | _ => false
theorem intB_ok {K : PySem.W.Frag} {x : Str} {i : Int} (h : intB K x i = true) : ∃ tk, PySem.W.nsIn K mainGlobals x = some (some (.int i tk)) := by
  unfold intB at h
  split at h
  · rename_i j tk e
    have := of_decide_eq_true h
    subst this
    exact ⟨tk, e⟩
  · cases h
def excB (K : PySem.W.Frag) (C : Addr) (bm : List Value) (nid : String) : Bool := match K.lookup C with
  | some ⟨.type t, _, .cls cd, sl⟩ => decide (t = "type") && (decide (cd.mro = .ref C :: bm) && (cd.hasDict && (!cd.hasDel && match sl.toList with
    | [_, _, _, _, some (.builtin b), _] => decide (b = nid)
    | _ => false)))
  | _ => false
theorem excB_ok {K : PySem.W.Frag} {C : Addr} {bm : List Value} {nid : String} (h : excB K C bm nid = true) : ∃ nm qq N bs sn sb ab co dd m0 m1 m2 m3 m5, K.lookup C = some (excClassObj nm qq C N bs bm true sn sb ab co dd m0 m1 m2 m3 m5 nid) := by
  unfold excB at h
  split at h
  · rename_i t dd cd sl e
    obtain ⟨h1, h⟩ := He.ba h
    obtain ⟨h2, h⟩ := He.ba h
    obtain ⟨h3, h⟩ := He.ba h
    obtain ⟨h4, h⟩ := He.ba h
    have h1 := of_decide_eq_true h1
    have h2 := of_decide_eq_true h2
    split at h
    · rename_i m0 m1 m2 m3 b m5 es
      have h5 := of_decide_eq_true h
      obtain ⟨nm, bs, mro, N, qq, hd, sn, sb, ab, co, hdel⟩ := cd
      simp only at h2 h3 h4
      have h4' : hdel = false := by simpa using h4
      subst h1 h2 h3 h4' h5
      have esl : sl = #[m0, m1, m2, m3, some (.builtin b), m5] := by
        apply Array.ext'
        rw [es]
      subst esl
      exact ⟨nm, qq, N, bs, sn, sb, ab, co, dd, m0, m1, m2, m3, m5, e⟩
    · cases h
  · cases h
abbrev FnZ : Type := Option (Str × Str × Arguments × FuncBody × Scope)
def fnO (K : PySem.W.Frag) (f : Addr) : FnZ := match K.lookup f with
  | some ⟨_, _, .func fd, _⟩ => some (fd.name, fd.qualname, fd.params, fd.body, fd.scope)
  | _ => none
def fnB (K : PySem.W.Frag) (f : Addr) (q : Str) : Bool := match K.lookup f with
  | some ⟨_, _, .func fd, _⟩ => Nat.beq fd.globals mainGlobals && (fd.closure.isEmpty && ((match fd.defaults with
    | .none => true
    | _ => false) && (Nat.beq fd.builtins builtinsNs && PySem.W.codeIn K fd.code q)))
  | _ => false
theorem fn_okZ {K : PySem.W.Frag} {f : Addr} {n q : Str} {ps : Arguments} {b : List Stmt} {sc : Scope} (e : fnO K f = some (n, q, ps, .stmts b, sc)) (c : fnB K f q = true) :
    ∃ oc od osl kV doc pm an cdv ct, K.lookup f = some ⟨oc, od, .func (PySem.W.fnOf n q ps b sc .none kV doc pm an cdv ct), osl⟩ ∧ PySem.W.codeIn K cdv q = true := by
  unfold fnO at e
  unfold fnB at c
  split at c
  · rename_i oc od fd osl el
    rw [el] at e
    obtain ⟨n1, n2, n3, n4, n5, n6, n7, n8, n9, n10, n11, n12, n13, n14, n15⟩ := fd
    have e2 : (some (n1, n2, n3, n4, n5) : FnZ) = some (n, q, ps, .stmts b, sc) := e
    simp only [Option.some.injEq, Prod.mk.injEq] at e2
    obtain ⟨h1, h2, h3, h4, h5⟩ := e2
    obtain ⟨c1, c⟩ := He.ba c
    obtain ⟨c2, c⟩ := He.ba c
    obtain ⟨c3, c⟩ := He.ba c
    obtain ⟨c4, c5⟩ := He.ba c
    have g1 : n6 = mainGlobals := Nat.eq_of_beq_eq_true c1
    have g2 : n7 = [] := by
      have : n7.isEmpty = true := c2
      simpa using this
    have g4 : n15 = builtinsNs := Nat.eq_of_beq_eq_true c4
    have g3 : n8 = .none := by cases n8 <;> first | rfl | cases c3
    clear c1 c2 c3 c4
    subst h1 h2 h3 h4 h5 g1 g2 g3 g4
    exact ⟨oc, od, osl, n9, n10, n11, n12, n13, n14, el, c5⟩
  · cases c
def dflZ (K : PySem.W.Frag) (dV : Value) : Bool := match dV with
  | .ref t => (match K.lookup t with
    | some ⟨_, _, .seq its _, _⟩ => (match its.toList with
      | [.ref e] => (match K.lookup e with
        | some ⟨.type c, _, .seq js _, _⟩ => js.toList.isEmpty && decide (c = "tuple")
        | _ => false)
      | _ => false)
    | _ => false)
  | _ => false
theorem dflZ_ok {K : PySem.W.Frag} {dV : Value} (h : dflZ K dV = true) : ∃ (t el : Addr) (tc : Value) (td te : Option Addr) (tn en : Nat) (ts es : Array (Option Value)), dV = .ref t ∧ K.lookup t = some ⟨tc, td, .seq #[.ref el] tn, ts⟩ ∧ K.lookup el = some ⟨.type "tuple", te, .seq #[] en, es⟩ := by
  unfold dflZ at h
  split at h
  · rename_i t
    split at h
    · rename_i tc td its tn ts e1
      split at h
      · rename_i el ei
        split at h
        · rename_i c te js en es e2
          obtain ⟨h1, h2⟩ := He.ba h
          have h2 := of_decide_eq_true h2
          have hj : js = #[] := by
            have : js.toList = [] := by simpa using h1
            exact Array.ext' this
          have hi : its = #[.ref el] := Array.ext' ei
          subst h2 hj hi
          exact ⟨t, el, tc, td, te, tn, en, ts, es, rfl, e1, e2⟩
        · cases h
      · cases h
    · cases h
  · cases h
def fnBD (K : PySem.W.Frag) (f : Addr) (q : Str) : Bool := match K.lookup f with
  | some ⟨_, _, .func fd, _⟩ => Nat.beq fd.globals mainGlobals && (fd.closure.isEmpty && (dflZ K fd.defaults && (Nat.beq fd.builtins builtinsNs && PySem.W.codeIn K fd.code q)))
  | _ => false
theorem fn_okD {K : PySem.W.Frag} {f : Addr} {n q : Str} {ps : Arguments} {b : List Stmt} {sc : Scope} (e : fnO K f = some (n, q, ps, .stmts b, sc)) (c : fnBD K f q = true) :
    ∃ (t el : Addr) (tc : Value) (td te : Option Addr) (tn en : Nat) (ts es : Array (Option Value)) (oc : Value) (od : Option Addr) (osl : Array (Option Value)) (kV doc pm : Value) (an : Option Addr) (cdv ct : Value), K.lookup f = some ⟨oc, od, .func (PySem.W.fnOf n q ps b sc (.ref t) kV doc pm an cdv ct), osl⟩ ∧ PySem.W.codeIn K cdv q = true ∧
      K.lookup t = some ⟨tc, td, .seq #[.ref el] tn, ts⟩ ∧ K.lookup el = some ⟨.type "tuple", te, .seq #[] en, es⟩ := by
  unfold fnO at e
  unfold fnBD at c
  split at c
  · rename_i oc od fd osl el
    rw [el] at e
    obtain ⟨n1, n2, n3, n4, n5, n6, n7, n8, n9, n10, n11, n12, n13, n14, n15⟩ := fd
    have e2 : (some (n1, n2, n3, n4, n5) : FnZ) = some (n, q, ps, .stmts b, sc) := e
    simp only [Option.some.injEq, Prod.mk.injEq] at e2
    obtain ⟨h1, h2, h3, h4, h5⟩ := e2
    obtain ⟨c1, c⟩ := He.ba c
    obtain ⟨c2, c⟩ := He.ba c
    obtain ⟨c3, c⟩ := He.ba c
    obtain ⟨c4, c5⟩ := He.ba c
    have g1 : n6 = mainGlobals := Nat.eq_of_beq_eq_true c1
    have g2 : n7 = [] := by
      have : n7.isEmpty = true := c2
      simpa using this
    have g4 : n15 = builtinsNs := Nat.eq_of_beq_eq_true c4
    obtain ⟨t, el', tc, td, te, tn, en, ts, es, g3, d1, d2⟩ := dflZ_ok c3
    have g3 : n8 = .ref t := g3
    clear c1 c2 c3 c4
    subst h1 h2 h3 h4 h5 g1 g2 g3 g4
    exact ⟨t, el', tc, td, te, tn, en, ts, es, oc, od, osl, n9, n10, n11, n12, n13, n14, el, c5, d1, d2⟩
  · cases c
def obsZ (n : Nat) (chk : PySem.W.Frag → Bool) (fn : List (PySem.W.Frag → Addr)) (g : Addr → Option Obj) : Bool × List FnZ := (chk (He.frG g (asZ g n)), fn.map fun f => fnO (He.frG g (asZ g n)) (f (He.frG g (asZ g n))))
def SaysZ (chk : PySem.W.Frag → Bool) (fn : List (PySem.W.Frag → Addr)) (vs : List FnZ) (K : PySem.W.Frag) : Prop := chk K = true ∧ (fn.map fun f => fnO K (f K)) = vs
def hookZ (n : Nat) (chk : PySem.W.Frag → Bool) (fn : List (PySem.W.Frag → Addr)) (vs : List FnZ) : PySem.W.Hook where
  α := Bool × List FnZ
  obs := fun s => obsZ n chk fn s.heap.get?
  val := fun _ => (true, vs)
  says := fun _ h => ∃ K : PySem.W.Frag, K.In h ∧ SaysZ chk fn vs K
  of := fun _ _ e => ⟨_, He.frG_in, congrArg (·.1) e, congrArg (·.2) e⟩
  keeps := fun _ _ _ ⟨K, hK, c⟩ k => ⟨K, PySem.W.Frag.In.keeps hK k, c⟩
theorem obsZ_eq {n : Nat} {chk : PySem.W.Frag → Bool} {fn : List (PySem.W.Frag → Addr)} {vs : List FnZ} {g : Addr → Option Obj} {s : Shared} (h : ∀ a, g a = s.heap.get? a) : obsZ n chk fn g = (hookZ n chk fn vs).obs s := by
  have e : g = s.heap.get? := funext h
  rw [e]
  rfl
theorem SaysZ.fn_ {chk : PySem.W.Frag → Bool} {fn : List (PySem.W.Frag → Addr)} {vs : List FnZ} {K : PySem.W.Frag} (c : SaysZ chk fn vs K) (i : Nat) {f : PySem.W.Frag → Addr} {v : FnZ} (h : fn[i]? = some f) (hv : vs[i]? = some v) : fnO K (f K) = v := by
  have e := congrArg (fun l => l[i]?) c.2
  simp only [List.getElem?_map, h, hv, Option.map_some] at e
  exact Option.some.inj e
theorem walkE {l : PySem.W.OpenLaw} {q : Program} {loose : List Str} {XP : (Str → Option Value) → Heap → Prop} {YP : World → Heap → Prop} {d : DefRec} {k : Nat} {x : Str} (hn : l.most = some 63) (hdf : d.params.defaults = []) (hr : Room k callerA)
    (F : ∀ (w : World) (mg : Str → Option Value) (fa : Addr) (h : Heap), YP w h → h.Ns mainGlobals mg → mg d.name = some (.ref fa) →
      ∃ K : PySem.W.Frag, K.In h ∧ ∃ fd : FuncData, (∀ (s : Shared) (u : Value), BindsTo s fd ⟨[u], []⟩ [(x, u)]) ∧ ∀ base : Heap, K.In base → base.Ns mainGlobals mg → FnOk l.prog w K mg base (L2.CX l.prog w) k fa fd [x] (spLaw K)) :
    PySem.W.WalkO q loose XP YP l.row.toRowW d [] (fun f vs => PySem.call f vs) := by
  refine Att.attach_callB hn hdf fun w s₀ s₁ mg mb fa o pm cd doc a vs ns G Y ho hd hcd hmg hobj hints hlen hbits hg => ?_
  obtain ⟨K, KX, fd, hb, hF⟩ := F w mg fa _ Y G.T.g hmg
  exact law_call KX G.T.g G.T.b G.T.builtins G.T.nolimit hg hobj hints (Nat.le_trans hlen (by decide)) hr hF hb (fun H hO hS => ⟨a, ns, rfl, hS, hlen, hbits, fun _ => rfl⟩) fun H e s' z => by
    obtain ⟨_, _, _, _, _, _, _, _, _, _, _, _, hE⟩ := z
    exact hE
end Z
set_option linter.all false
set_option Elab.async false
set_option maxRecDepth 100000
set_option linter.all false
set_option Elab.async false
set_option maxRecDepth 100000
namespace Z
open PySem PySem.Spec PyProof.Rows L2
inductive GF where
  | nx
  | bk
  | ct
abbrev Gm := List W → S → Option (Except Ex (GF × List W) × S)
def gfD (D : GEnds) : GF → List V → L2.St → Hp → Prop
  | .nx => D.nx
  | .bk => D.bk
  | .ct => D.ct
section
variable {K : PySem.W.Frag} {mg : Str → Option Value} {ea : EA} {io io' : List Addr} {Fr : Addr → Prop} {s s' s1 : S} {σ σ' : L2.St} {H H' H1 : Hp} {Wx : WX}
def RefN (K : PySem.W.Frag) (mg : Str → Option Value) (ea : EA) (Wx : WX) (t : TGn) (m : Gm) : Prop := ∀ (σ : L2.St) (H : Hp) (io : List Addr) (Fr : Addr → Prop) (s : S), Sim K mg ea io Fr s σ H → ∀ (ws : List W) (ys : List V), Rws K mg io (Ms io Fr s σ) H ws ys → ∀ r s', m ws s = some (r, s') → ∀ D : GEnds,
  (∀ f ws', r = .ok (f, ws') → ∀ σ' H' io' ys', PostS K mg ea io Fr s σ H s' σ' io' H' → Rws K mg io' (Ms io' Fr s' σ') H' ws' ys' → gfD D f ys' σ' H') →
  (∀ x, r = .error x → ∀ cls d σ' H' io', PostX K mg ea io Fr s σ H s' σ' io' H' x cls d → Wx cls d σ' H') → t D ys σ H
end
end Z
set_option linter.all false
set_option Elab.async false
set_option maxRecDepth 100000
namespace Z
open PySem PySem.Spec PyProof.Rows L2
def mExt (i : Nat) (me : Mo RV) : Mo Fl := bnd (mName i) fun x => bnd me fun y => bnd (look (settle y)) fun wy s => match wy, cellAt s x with
  | .lst zs, some (.lst xs) => if xs.length + zs.length ≤ sz then some (.ok .nx, putAt s (.lst (xs ++ zs)) x) else none
  | _, _ => none
section
variable {K : PySem.W.Frag} {mg : Str → Option Value} {ea : EA} {Wx : WX} {io : List Addr} {M : Addr → Prop} {H : Hp} {v : V}
theorem Rn.lstH {zs : List W} (h : Rn K mg io M H (.lst zs) v) : ∃ a vs, v = .ref a ∧ H a = some (.lst vs) ∧ Rws K mg io M H zs vs := by
  rcases h with h | ⟨c, o, a, e, rfl, ho, hc⟩
  · cases h with
    | lst h1 h2 h3 h4 => exact ⟨_, _, rfl, h1, h3, h4⟩
  · cases c <;> simp at e
    obtain ⟨vs, rfl, r⟩ := hc
    subst e
    exact ⟨a, vs, rfl, ho, r⟩
theorem ref_ext {i : Nat} {te : TE} {me : Mo RV} (he : RefE K mg ea Wx te me) : RefS K mg ea Wx (tAug i te rExt2) (mExt i me) := by
  intro σ H io Fr s S0 r0 s' e D hnx hbk hct hrt hex
  rcases bnd_some e with ⟨x, e1, rfl⟩ | ⟨x, s1, e1, e2⟩
  · unfold mName at e1
    split at e1 <;> cases e1
  have nm : ∃ v, σ[i]? = some (some v) ∧ s1 = s ∧ RvR K mg io (Ms io Fr s σ) σ H x v := by
    unfold mName at e1
    split at e1
    · rename_i w q
      cases e1
      obtain ⟨v, q1, q2⟩ := S0.val i w q
      exact ⟨v, q1, rfl, q2⟩
    · rename_i c q
      cases e1
      obtain ⟨a, o, q1, _⟩ := S0.own i c q
      exact ⟨_, q1, rfl, q1⟩
    · cases e1
  obtain ⟨vx, hv, rfl, rx⟩ := nm
  refine ⟨vx, hv, ?_⟩
  rcases bnd_some e2 with ⟨z, e3, rfl⟩ | ⟨y, s2, e3, e4⟩
  · exact he σ H io Fr s1 S0 _ _ e3 _ (fun _ q => by cases q) fun x' q cls d H' io' px => by
      cases q
      exact hex _ rfl cls d σ H' io' px
  refine he σ H io Fr s1 S0 _ _ e3 _ (fun y' q vy H2 io2 px => ?_) (fun _ q => by cases q)
  cases q
  obtain ⟨S2, T2, R2⟩ := px.settled
  rcases bnd_some e4 with ⟨z, e5, _⟩ | ⟨wy, s3, e5, e6⟩
  · obtain ⟨_, _, q, _⟩ := look_ok S2 R2 e5
    cases q
  obtain ⟨rfl, wy', q, ny⟩ := look_ok S2 R2 e5
  cases q
  split at e6
  · rename_i zs xs hc
    split at e6
    · rename_i hz
      obtain ⟨b, vs, rfl, hb, rz⟩ := ny.lstH
      obtain ⟨a, o, rfl, ha, hM, rc, up⟩ := cell_ok S2 (rx.pers T2.p) hc
      obtain ⟨us, rfl, ru⟩ := rc
      cases e6
      refine ⟨a, b, us, vs, rfl, rfl, ha, hb, ?_, ?_⟩
      · rw [← ru.1, ← rz.1, sz_eq]; exact hz
      · obtain ⟨S7, T7, m7⟩ := up (.lst (xs ++ zs)) (.lst (us ++ vs)) fun p => ⟨_, rfl, (ru.pers p).append (rz.pers p)⟩
        have es : σ.set i (some (.ref a)) = σ := by
          apply List.ext_getElem?
          intro j
          by_cases ij : i = j
          · subst ij
            rw [List.getElem?_set_self (get_lt hv), hv]
          · rw [List.getElem?_set_ne ij]
        rw [es]
        exact hnx rfl _ _ io2 ⟨S7, T2.trans T7⟩
    · cases e6
  · cases e6
end
section
variable {X : Cx} {ea : EA} {Wx : WX} {e : Expr} {me : Mo RV} {pos : Pos}
theorem pes_ext (i : Nat) {x : Str} {pos' : Pos} (hN : X.N.Nodup) (he : Pee X ea Wx e me) (hi : X.N[i]? = some x := by rfl) (hx : Loc X.env.scope x := by first | exact Or.inl rfl | exact Or.inr rfl)
    (hf : X.fn x = true ∨ X.env.scope.names.lookup x = some .local := by first | exact .inl rfl | exact .inr rfl) : Pes X ea Wx (.AugAssign (.Name x pos') .Add e pos) (mExt i me) := by
  obtain ⟨t, q, rr⟩ := he.ex
  exact ⟨_, ps_aug hN hi hx q iop_ext hf, ref_ext rr⟩
end
section
variable {r : List SV} {G : List Cell} {i : Nat} {f : W → W → Option OR} {me : Mo RV}
@[simp] theorem mExt_e : mExt i me ⟨r, G⟩ = bnd (mName i) (fun x => bnd me fun y => bnd (look (settle y)) fun wy s => match wy, cellAt s x with
  | .lst zs, some (.lst xs) => if xs.length + zs.length ≤ sz then some (.ok .nx, putAt s (.lst (xs ++ zs)) x) else none
  | _, _ => none) ⟨r, G⟩ := rfl
end
end Z
set_option linter.all false
set_option Elab.async false
set_option maxRecDepth 100000
namespace Z
open PySem PySem.Spec PyProof.Rows L2 GenW
structure Pgs (X : Cx) (ea : EA) (Wx : WX) (st : Stmt) (m : Gm) : Prop where
  ex : ∃ t, GS X st t ∧ RefN X.K X.mg ea Wx t m
structure Pgss (X : Cx) (ea : EA) (Wx : WX) (st : List Stmt) (m : Gm) : Prop where
  ex : ∃ t, GSs X st t ∧ RefN X.K X.mg ea Wx t m
abbrev Gn := List W → List Cell → Option (Except Ex (List W) × List Cell)
def spGM (K : PySem.W.Frag) (mg : Str → Option Value) (n : Nat) (m : Gn) : SpG := fun vs H Q E => vs.length = n ∧ ∃ io Fr G ws r G', GSim K mg io Fr G H ∧ Rws K mg io (Mu io Fr) H ws vs ∧ m ws G = some (r, G') ∧
  (∀ out, r = .ok out → ∀ ys H' io', GSim K mg io' Fr G' H' → Stp io (Mu io Fr) Fr H io' (Mu io' Fr) H' → Rws K mg io' (Mu io' Fr) H' out ys → Q ys H') ∧ (∀ x, r = .error x → ∀ cls d H' io', PostXF K mg io (Mu io Fr) Fr H G' io' H' x cls d → E cls d H')
structure GnM (P : Program) (w : World) (K : PySem.W.Frag) (mg : Str → Option Value) (base : Heap) (k : Nat) (f : Addr) (fd : FuncData) (ps : List Str) (m : Gn) : Prop where
  ok : GFn P w K mg base k f fd ps (spGM K mg ps.length m)
section
variable {P : Program} {w : World} {K : PySem.W.Frag} {mg : Str → Option Value} {base : Heap}
theorem GFn.mono {k k' : Nat} {f : Addr} {fd : FuncData} {ps : List Str} {sp : SpG} (F : GFn P w K mg base k f fd ps sp) (h : k ≤ k') : GFn P w K mg base k' f fd ps sp := by
  refine ⟨F.len, fun A outer s H args us vs Q E hr e0 hb r hsp => ?_⟩
  refine codeAny_mono (F.run A outer s H args us vs Q E (hr.mono h) e0 hb r hsp) fun r s' hq => ?_
  cases r with
  | error e => exact hq
  | ok fl =>
    cases fl with
    | ret u =>
      obtain ⟨a, g, c, q1, q2, q3, q4, q5, q6, q7, q8, q9, q10⟩ := hq
      exact ⟨a, g, c, q1, q2, q3, q4, q5, q6, q7, q8, q9, fun A S s2 hr => q10 A S s2 (hr.mono h)⟩
    | next => exact hq
    | brk => exact hq
    | cont => exact hq
end
end Z
set_option linter.all false
set_option Elab.async false
set_option maxRecDepth 100000
set_option linter.all false
set_option Elab.async false
set_option maxRecDepth 100000
namespace Z
open PySem PySem.Spec PyProof.Rows L2
structure Psx (X : Cx) (ea : EA) (Wx : WX) (body sts : List Stmt) (m : Mo Fl) : Prop where
  ex : ∃ t : TS, (∀ (pins : List (Addr × Obj)) (s : Shared) (σ : L2.St) (H : Hp) (D : Ends), Inv X pins σ H s → t D σ H → _root_.PySem.wpAt (model X.prog X.w) X.A (.func body X.env) (execs sts X.env) (SP X pins D) X.xe s) ∧ RefS X.K X.mg ea Wx t m
end Z
set_option linter.all false
set_option Elab.async false
set_option maxRecDepth 100000
set_option linter.all false
set_option Elab.async false
set_option maxRecDepth 100000
set_option maxHeartbeats 3200000
namespace Z
open PySem PySem.Spec PyProof.Rows L2
section
variable {K : PySem.W.Frag} {mg : Str → Option Value} {ea : EA} {Wx : WX} {io : List Addr} {M : Addr → Prop} {H : Hp}
theorem p3 {α β : Type} {F : α → β → Prop} {x x' x'' : α} {ys : List β} (h : Paired F [x, x', x''] ys) : ∃ y y' y'', ys = [y, y', y''] ∧ F x y ∧ F x' y' ∧ F x'' y'' := by
  cases h with
  | cons h t =>
    obtain ⟨y', y'', rfl, h', h''⟩ := p2 t
    exact ⟨_, _, _, rfl, h, h', h''⟩
end
end Z
set_option linter.all false
set_option Elab.async false
set_option maxRecDepth 100000
namespace Z
open PySem PySem.Spec PyProof.Rows L2 GenW
def NoG (fs : List Frame) : Prop := ∀ F ∈ fs, ∃ k h g l c p kp, F = .ret k h g l c p kp
theorem NoG.nil : NoG [] := fun _ h => by simp at h
theorem NoG.cons {k h g l c p kp} {fs : List Frame} (h' : NoG fs) : NoG (.ret k h g l c p kp :: fs) := fun F m => by
  rcases List.mem_cons.mp m with rfl | m
  · exact ⟨_, _, _, _, _, _, _, rfl⟩
  · exact h' F m
def stuckG : GenState → GenState
  | .suspended _ l c p fs cl => .suspended (fun _ => .unsupported "") l c p (fs.map fun F => .ret (fun _ => .unsupported "") none false [] F.where_.1 F.where_.2 []) cl
  | x => x
def Sus (x : GenState) : Prop := ∃ k l c p fs cl, x = .suspended k l c p fs cl
structure Sl (P : Nat → Option GenState) (s t : Shared) : Prop where
  heap : s.heap = t.heap
  drawn : s.drawn = t.drawn
  toks : s.toks = t.toks
  os : s.os = t.os
  size : s.gens.size = t.gens.size
  out : ∀ i, P i = none → s.gens[i]? = t.gens[i]? ∧ ∀ k l c p fs cl, t.gens[i]? = some (.suspended k l c p fs cl) → NoG fs
  ins : ∀ i x, P i = some x → Sus x ∧ s.gens[i]? = some x ∧ t.gens[i]? = some (stuckG x)
section
variable {P : Nat → Option GenState} {s t : Shared} {M : Model}
theorem sets_ne {a : Array GenState} {g i : Nat} {x : GenState} (h : i ≠ g) : (a.setIfInBounds g x)[i]? = a[i]? := by rw [Array.getElem?_setIfInBounds_ne (Ne.symm h)]
theorem Sl.set (h : Sl P s t) {g : Nat} {x : GenState} (hg : P g = none) (hx : ∀ k l c p fs cl, x = .suspended k l c p fs cl → NoG fs) : Sl P (s.setGen g x) (t.setGen g x) where
  heap := h.heap
  drawn := h.drawn
  toks := h.toks
  os := h.os
  size := by
    show (s.gens.setIfInBounds g x).size = (t.gens.setIfInBounds g x).size
    simp [h.size]
  out := fun i hi => by
    show (s.gens.setIfInBounds g x)[i]? = (t.gens.setIfInBounds g x)[i]? ∧ ∀ k l c p fs cl, (t.gens.setIfInBounds g x)[i]? = some (.suspended k l c p fs cl) → NoG fs
    by_cases e : i = g
    · subst e
      rw [Array.getElem?_setIfInBounds_self, Array.getElem?_setIfInBounds_self, h.size]
      refine ⟨rfl, fun k l c p fs cl q => ?_⟩
      split at q
      · exact hx _ _ _ _ _ _ (Option.some.inj q)
      · cases q
    · rw [sets_ne e, sets_ne e]
      exact h.out i hi
  ins := fun i y hi => by
    have e : i ≠ g := fun z => by rw [z, hg] at hi; cases hi
    obtain ⟨a, b, c⟩ := h.ins i y hi
    refine ⟨a, ?_, ?_⟩
    · show (s.gens.setIfInBounds g x)[i]? = _
      rw [sets_ne e]; exact b
    · show (t.gens.setIfInBounds g x)[i]? = _
      rw [sets_ne e]; exact c
theorem Sl.push (h : Sl P s t) (c : Code) : Sl P { s with gens := s.gens.push (.fresh c) } { t with gens := t.gens.push (.fresh c) } where
  heap := h.heap
  drawn := h.drawn
  toks := h.toks
  os := h.os
  size := by simp [h.size]
  out := fun i hi => by
    have q := h.out i hi
    simp only [Array.getElem?_push, h.size]
    split
    · exact ⟨rfl, fun _ _ _ _ _ _ z => by cases z⟩
    · exact q
  ins := fun i y hi => by
    obtain ⟨a, b, d⟩ := h.ins i y hi
    have b1 := (Array.getElem?_eq_some_iff.mp b).1
    have d1 := (Array.getElem?_eq_some_iff.mp d).1
    refine ⟨a, ?_, ?_⟩
    · simp only [Array.getElem?_push, if_neg (Nat.ne_of_lt b1)]
      exact b
    · simp only [Array.getElem?_push, if_neg (Nat.ne_of_lt d1)]
      exact d
end
section
variable {P : Nat → Option GenState} {M : Model}
def slept (s : Shared) (i : Nat) : Option GenState := match s.gens[i]? with
  | some (.suspended k l c p fs cl) => some (.suspended k l c p fs cl)
  | _ => none
theorem Sl.bare {s t s0 : Shared} (x : Sl (slept s0) s t) (h : AllBare t.gens) (h0 : AllBare s0.gens) : AllBare s.gens := fun y hy => by
  obtain ⟨i, hi, e⟩ := Array.mem_iff_getElem.mp hy
  have e1 : s.gens[i]? = some y := by rw [Array.getElem?_eq_getElem hi, e]
  cases hp : slept s0 i with
  | none =>
    rw [(x.out i hp).1] at e1
    exact h y (Array.mem_of_getElem? e1)
  | some z =>
    obtain ⟨_, b, _⟩ := x.ins i z hp
    rw [b] at e1
    cases e1
    unfold slept at hp
    split at hp
    · rename_i q
      cases hp
      exact h0 _ (Array.mem_of_getElem? q)
    · cases hp
theorem Sl.eq {s t s0 : Shared} (x : Sl (slept s0) s t) : s = { t with gens := s.gens } := by
  obtain ⟨h1, h2, h3, h4, h5⟩ := s
  obtain ⟨g1, g2, g3, g4, g5⟩ := t
  have a := x.heap; have b := x.drawn; have c := x.toks; have d := x.os
  simp only at a b c d
  subst a b c d
  rfl
end
end Z
set_option linter.all false
set_option Elab.async false
set_option maxRecDepth 100000
namespace Z
open PySem PySem.Spec PyProof.Rows L2
def lk (L : List (Addr × Obj)) (H : Hp) : Hp := fun b => match L.lookup b with
  | some o => some (.frz o (.own b))
  | none => H b
section
variable {X : Cx} {L : List (Addr × Obj)} {pins : List (Addr × Obj)} {σ : L2.St} {H : Hp} {s : Shared}
structure Afar (X : Cx) (L : List (Addr × Obj)) (pins : List (Addr × Obj)) : Prop where
  young : ∀ b o, L.lookup b = some o → X.s_0.heap.objs.size ≤ b
  loc : ∀ o, L.lookup X.env.locals ≠ some o
  cell : ∀ x c o, X.env.cells.lookup x = some c → L.lookup c ≠ some o
  pin : ∀ p ∈ X.pn ++ pins, ∀ o, L.lookup p.1 ≠ some o
  h0 : ∀ b o, L.lookup b = some o → (∀ xs, X.H_0 b ≠ some (.tup xs)) ∧ (∀ ob u, X.H_0 b ≠ some (.frz ob u)) ∧ ∀ ps, X.H_0 b ≠ some (.tbl ps)
end
end Z
set_option Elab.async false
set_option linter.all false
set_option maxRecDepth 100000
namespace Z
open PySem PySem.Spec PyProof.Rows L2
section
variable {K : PySem.W.Frag} {mg : Str → Option Value} {ea : EA} {io : List Addr} {Fr : Addr → Prop} {s0 : S} {σ0 : L2.St} {H : Hp} {body : Mo Fl} {t : TS} {Q : VK} {E : XK} {r : Except Ex FV} {G' : List Cell}
theorem run_out (rf : RefS K mg ea (fun cls d _ H => E cls d H) t body) (S0 : Sim K mg ea io Fr s0 σ0 H) (mo : ∀ b, Ms io Fr s0 σ0 b → Mu io Fr b) (e : outF (body s0) = some (r, G'))
    (hok : ∀ f, r = .ok f → ∀ v H' io', PostF K mg io (Mu io Fr) Fr H G' io' H' f v → Q v H') (hex : ∀ x, r = .error x → ∀ cls d H' io', PostXF K mg io (Mu io Fr) Fr H G' io' H' x cls d → E cls d H') :
    t { nx := fun _ H' => Q .non H', rt := Q } σ0 H := by
  have T0 : ∀ {M' : Addr → Prop} {io' : List Addr} {H' : Hp}, Stp io (Ms io Fr s0 σ0) Fr H io' M' H' → Stp io (Mu io Fr) Fr H io' M' H' := fun T => (Stp.refl.less mo : Stp io (Mu io Fr) Fr H io (Ms io Fr s0 σ0) H).trans T
  cases kb : body s0 with
  | none => rw [kb] at e; cases e
  | some pr =>
    obtain ⟨rb, sb⟩ := pr
    rw [kb] at e
    refine rf _ _ _ _ _ S0 _ _ kb _ (fun q _ H' io' px => ?_) (fun q _ _ _ _ => by subst q; cases e) (fun q _ _ _ _ => by subst q; cases e) (fun f q v H' io' px => ?_) fun xx q cls d σ' H' io' px => ?_
    · subst q
      cases e
      exact hok _ rfl _ _ _ ⟨px.1.g.less (s := sb) fun b z => .inl z, (T0 px.2).less fun b z => z.imp id .inl, .non⟩
    · subst q
      cases e
      refine hok _ rfl v H' io' ?_
      cases f with
      | val w => exact let ⟨p1, p2, p3⟩ := px; ⟨p1, T0 p2, p3⟩
      | own c => exact let ⟨a, o, p1, p2, p3, p4, p5, p6⟩ := px; ⟨a, o, p1, p2, p3, p4, T0 p5, p6⟩
    · subst q
      cases e
      obtain ⟨p1, p2, p3⟩ := px
      have le : ∀ b, Mu io' Fr b → Ms io' Fr sb σ' b := fun b z => z.imp id .inl
      exact hex _ rfl cls d H' io' ⟨p1.g.less (s := sb) fun b z => .inl z, (T0 p2).less le, p3.congr le⟩
end
def spV (K : PySem.W.Frag) (mg : Str → Option Value) (m : Fn) : Sp := fun vs H Q E => vs.length ≤ sizeLine ∧ ∀ p, H p = none → spM K mg 1 m [V.ref p] (upd H p (.tup vs)) Q E
abbrev BindV (x qual : Str) (st : Stmt) (pv : Str) : Prop := ∀ (kV doc pm : Value) (an : Option Addr) (cdv ct : Value) (rest : List Value),
  bindArgs (PySem.W.fnOf x qual (defArgs st) (defBody st) (defScope st) .none kV doc pm an cdv ct) ⟨rest, []⟩ = (newTuple rest >>= fun t => pure [(pv, t)])
section
variable {P : Program} {w : World} {K : PySem.W.Frag} {mg : Str → Option Value} {base : Heap} {x qual pv p0 nm : Str} {st : Stmt} {f C : Addr} {fd : FuncData} {N ps : List Str} {k n : Nat} {body : Mo Fl}
abbrev BodyOk (P : Program) (w : World) (K : PySem.W.Frag) (mg : Str → Option Value) (base : Heap) (qual : Str) (st : Stmt) (f : Addr) (N : List Str) (k : Nat) (ea : EA) (body : Mo Fl) : Prop :=
  ∀ (cdv : Value) (A : Around) (outer : List Env) (s : Shared) (H : Hp) (E : XK), Room k (A.deeper (envOfC qual (defScope st) s.heap.objs.size f cdv)) → (A.deeper (envOfC qual (defScope st) s.heap.objs.size f cdv)).units + 150 < cLine →
      Takes (cxOf (L2.CX P w) P w K mg base N qual (defScope st) f cdv A outer s H E) (fun cls d _ H => E cls d H) →
      PassesOwn (model P w) (A.deeper (envOfC qual (defScope st) s.heap.objs.size f cdv)) (envOfC qual (defScope st) s.heap.objs.size f cdv) (cxOf (L2.CX P w) P w K mg base N qual (defScope st) f cdv A outer s H E).xe →
      Pess (cxOf (L2.CX P w) P w K mg base N qual (defScope st) f cdv A outer s H E) ea (fun cls d _ H => E cls d H) (defBody st) body
theorem defV (F : Fun K x qual st f fd) (S : FnScope N [pv] (defScope st)) (hn : N.length = n) (bv : BindV x qual st pv) (hb : BodyOk P w K mg base qual st f N k ea0 body) : FnR P w K mg base (L2.CX P w) (k + 1) f (spV K mg (fnM n body)) := by
  obtain ⟨_, _, _, kV, doc, pm, cdv, ct, an, rfl, lk, hcd⟩ := F.ex
  refine FnR.imp (StX.fn_star (ps := []) (pv := pv) (sp := spM K mg 1 (fnM n body)) lk hcd S StX.cxUp (fun us rest hl => ?_) fun A outer s H vs Q E hr sp => ?_) fun vs H Q E h => ⟨[], vs, rfl, rfl, h.1, fun p hp => h.2 p hp⟩
  · cases us with
    | nil => exact bv _ _ _ _ _ _ rest
    | cons _ _ => cases hl
  · obtain ⟨t, p, rf⟩ := (hb cdv A outer s H E hr (by have := hr.un; omega) (takes_of rfl rfl rfl rfl) (passes_of rfl)).ex
    exact ⟨t, p, spM_body (ps := [pv]) hn (by rw [← hn, ← S.pre]; exact List.length_take_le' _ _) rf sp⟩
def fnC (nm : Str) (n : Nat) (body : Mo Fl) : Fn := fun ws G => outF (body ⟨.exc ⟨nm, []⟩ :: (ws.map SV.val ++ List.replicate (n - (ws.length + 1)) SV.non), G⟩)
def spC (K : PySem.W.Frag) (mg : Str → Option Value) (C : Addr) (n : Nat) (m : Fn) : Sp := fun vs H Q E => ∃ us, vs = .ref C :: us ∧ spM K mg n m us H Q E
theorem defC (F : Fun K x qual st f fd) (S : FnScope N (p0 :: ps) (defScope st)) (hb0 : Binds K fd (p0 :: ps) []) (hn : N.length = n) (hC : mg nm = some (.ref C)) (hb : BodyOk P w K mg base qual st f N k ⟨C, .ref C, none⟩ body) :
    FnR P w K mg base (L2.CX P w) (k + 1) f (spC K mg C ps.length (fnC nm n body)) := by
  have ok : FnOk P w K mg base (L2.CX P w) (k + 1) f fd (p0 :: ps) (spC K mg C ps.length (fnC nm n body)) := by
    refine F.okX S (fun vs H Q E h => ?_) fun cdv A outer s H vs Q E hr h => ?_
    · obtain ⟨us, rfl, hl, _⟩ := h
      simp [hl]
    obtain ⟨us, rfl, hl, io, Fr, G, ws, r, G', g, R, e, hok, hex⟩ := h
    obtain ⟨t, p, rf⟩ := (hb cdv A outer s H E hr (by have := hr.un; omega) (takes_of rfl rfl rfl rfl) (passes_of rfl)).ex
    refine ⟨t, p, ?_⟩
    have few : us.length + 1 ≤ n := by
      have := congrArg List.length S.pre
      rw [List.length_take] at this
      simp only [List.length_cons] at this
      omega
    have R0 : Rws K mg io (Mu io Fr) H (.non :: ws) (.non :: us) := Rws.cons .non R
    obtain ⟨S0, mo⟩ := sim_start (ea := ea0) (s := ⟨[], G⟩) hn (by simpa using few) g R0
    have ne : noExc ((W.non :: ws).map SV.val ++ List.replicate (n - (W.non :: ws).length) SV.non) = true := by
      unfold noExc
      rw [List.all_eq_true]
      intro z hz
      rcases List.mem_append.mp hz with hz | hz
      · obtain ⟨u, _, rfl⟩ := List.mem_map.mp hz
        rfl
      · rw [List.eq_of_mem_replicate hz]
    obtain ⟨S1, le⟩ := S0.setExc (a := C) (i := 0) (x := ⟨nm, []⟩) (cls := .ref C) (d := none) ne ⟨C, hC, rfl, .inl ⟨rfl, rfl⟩⟩
    exact run_out rf S1 (fun b z => (mo b).1 (le b z)) e hok hex
  have raw := ok.raw hb0 .nil
  exact FnR.imp raw fun vs H Q E h => by rw [List.append_nil]; exact h
end
section
variable {X : Cx} {ea : EA} {Wx : WX} {e o : Expr} {es : List Expr} {ms : Mo (List RV)} {m : Fn} {k n : Nat} {f C : Addr} {fd : FuncData} {ps : List Str} {x mn : Str} {p pos apos p2 : Pos}
def mCallV (m : Fn) (ms : Mo (List RV)) : Mo RV := bnd ms fun xs => bnd (freezeAll xs) fun ws => if ws.length ≤ sz then quiet (callG m [.tup ws]) else stk
theorem ref_callV {K : PySem.W.Frag} {mg : Str → Option Value} {t : TA} (r : RefA K mg ea Wx t ms) : RefE K mg ea Wx (fun σ H Q => t σ H fun vs H1 => spV K mg m vs H1 Q E0) (mCallV m ms) := by
  intro σ H io Fr s S0 r0 s' e Q hok hex
  refine arg2 r S0 e hex fun xs vs s1 H1 io1 e2 px R1 => ?_
  rcases bnd_some e2 with ⟨x, e3, rfl⟩ | ⟨ws, s2, e3, e4⟩
  · obtain ⟨_, _, _, _, q, _⟩ := freezeAll_ok px.1 R1 e3
    cases q
  obtain ⟨_, m2, S2, ws', q, r2⟩ := freezeAll_ok px.1 R1 e3
  cases q
  split at e4
  · rename_i hz
    have T2 := px.2.less m2
    unfold quiet at e4
    split at e4
    · rename_i y s3 k3
      cases e4
      refine ⟨by rw [sz_eq, ← r2.1]; exact hz, fun p hp => ?_⟩
      obtain ⟨S3, T3⟩ := S2.laid (o := .tup vs) hp
      have nM : ¬ Ms io1 Fr s2 σ p := fun z => by
        obtain ⟨u, e⟩ := S2.trk z
        rw [hp] at e; cases e
      have r3 := r2.pers T3.p
      have := spM_use (n := 1) (Wx := fun _ _ _ _ => False) (Q := Q) (vs := [.ref p]) S3 (Rws.one (.tup (.inl ⟨upd_same, nM⟩) r3.1 r3.2)) rfl k3 (fun x q v H' io' p => by cases q; exact hok _ rfl v H' io' (p.trans (T2.trans T3))) (fun x q => by cases q)
      exact this
    · cases e4
  · cases e4
theorem pee_callV (F : FnR X.prog X.w X.K X.mg X.base (L2.CX X.prog X.w) k f (spV X.K X.mg m)) (hr : Room k X.A) (hm : X.mg x = some (.ref f)) (hk : PySem.W.keepIn X.K (.ref f) = true) (ha : Pea X ea Wx (e :: es) ms)
    (hg : Gl X x := by rfl) (hdb : (x == ("__debug__" : Str)) = false := by decide) (he : starEach (e :: es) X.env = (false, eval e X.env) :: starEach es X.env := by rfl) (hpl : (backTo pos (starEach es X.env)).any (·.1) = false := by rfl) :
    Pee X ea Wx (.Call (.Name x p) (e :: es) [] pos) (mCallV m ms) := by
  obtain ⟨t, q, r⟩ := ha.ex
  exact ⟨_, ⟨fun pins s σ H Q I h => wpAny_Call_Name_kw (ld_glob I hg hm (args_go hk q he hpl I h fun us vs s1 H1 J rv w => wpAny_call (run_fnR F hr passL J rv w)) hdb)⟩, ref_callV r⟩
theorem pee_callV0 (F : FnR X.prog X.w X.K X.mg X.base (L2.CX X.prog X.w) k f (spV X.K X.mg m)) (hr : Room k X.A) (hm : X.mg x = some (.ref f)) (hk : PySem.W.keepIn X.K (.ref f) = true) (hg : Gl X x := by rfl) (hdb : (x == ("__debug__" : Str)) = false := by decide) :
    Pee X ea Wx (.Call (.Name x p) [] [] pos) (mCallV m mNil) :=
  ⟨_, ⟨fun pins s σ H Q I h => wpAny_Call_Name_kw (ld_glob I hg hm (PySem.W.callWith_K0 I.kIn hk (wpAny_call (run_fnR (us := []) (vs := []) F hr passL I .nil h))) hdb)⟩, ref_callV ref_nil⟩
theorem pee_cmethN {pl : Sem Bool} (hC : X.mg x = some (.ref C)) (r : ClX.CRead X.K C (.type "type")) (c : ∃ q, ClX.CMet X.K C (.type "type") mn q f) (F : FnR X.prog X.w X.K X.mg X.base (L2.CX X.prog X.w) k f (spC X.K X.mg C n m)) (hr : Room k X.A) (ha : Pea X ea Wx (e :: es) ms)
    (hg : Gl X x := by rfl) (hdb : (x == ("__debug__" : Str)) = false := by decide) (hst : starEach (e :: es) X.env = (false, eval e X.env) :: starEach es X.env := by rfl) (hpl : (backTo pos (starEach es X.env)).any (·.1) = false := by rfl)
    (ht : eval (.Call (.Attribute (.Name x p) mn apos) (e :: es) [] pos) X.env = (do
      let ov ← eval (.Name x p) X.env
      standAt apos.atName
      let (f, first) ← holding [ov] (getMethod ov mn pl)
      callWith pos f first (backTo pos (starEach (e :: es) X.env)) (backToKw pos (keywordEach [] X.env))) := by rfl) :
    Pee X ea Wx (.Call (.Attribute (.Name x p) mn apos) (e :: es) [] pos) (mCallW n m ms) := by
  obtain ⟨q, c⟩ := c
  obtain ⟨t, pt, rf⟩ := ha.ex
  refine ⟨_, ClX.pe_cmeth (pl := pl) (pe_glob (v := .ref C) hg hC rfl hdb) r c F hr passL pt hst hpl ht, ?_⟩
  intro σ H io Fr s S0 r0 s' e Q hok hex
  refine ⟨rfl, ?_⟩
  refine arg2 rf S0 e hex fun xs vs s1 H1 io1 e2 px R1 => ?_
  rcases bnd_some e2 with ⟨x, e3, rfl⟩ | ⟨ws, s2, e3, e4⟩
  · obtain ⟨_, _, _, _, q, _⟩ := freezeAll_ok px.1 R1 e3
    cases q
  obtain ⟨_, m2, S2, ws', q, r2⟩ := freezeAll_ok px.1 R1 e3
  cases q
  split at e4
  · rename_i hn
    have T2 := px.2.less m2
    unfold quiet at e4
    split at e4
    · rename_i y s3 k3
      cases e4
      have := spM_use (n := n) (Wx := fun _ _ _ _ => False) (Q := Q) (vs := vs) S2 r2 (r2.1.symm.trans hn) k3 (fun x q v H' io' p => by cases q; exact hok _ rfl v H' io' (p.trans T2)) (fun x q => by cases q)
      exact ⟨vs, rfl, this⟩
    · cases e4
  · cases e4
def mMakeX (i : Nat) (mk : Mo RV) : Mo RV := fun s => match s.r[i]? with
  | some (.exc _) => mk s
  | _ => none
theorem pee_makeX (i : Nat) {fI : Addr} (hp : ps.length = n) (hC : X.mg x = some (.ref C)) (M : Mk X.K C fI) (F : FnM X.prog X.w X.K X.mg X.base k fI fd ps m) (hr : Room (k + 1) X.A) (hb : Binds X.K fd ps []) (tk : Takes X Wx) (ha : Pea X ⟨C, .ref C, none⟩ Wx (e :: es) ms) {y : Str}
    (hN : X.N[i]? = some y := by rfl) (hv : Vis X.env.scope y := by first | exact .inl rfl | exact .inr (.inl rfl)) (hdb : (y == ("__debug__" : Str)) = false := by decide) (hcd : (y == ("__classdict__" : Str)) = false := by decide)
    (hst : starEach (e :: es) X.env = (false, eval e X.env) :: starEach es X.env := by rfl) (hpl : (backTo pos (starEach es X.env)).any (·.1) = false := by rfl) :
    Pee X ⟨C, .ref C, none⟩ Wx (.Call (.Name y p) (e :: es) [] pos) (mMakeX i (mMake x n m [] ms)) := by
  subst hp
  obtain ⟨t, pt, rf⟩ := ha.ex
  refine ⟨fun σ H Q => σ[i]? = some (some (.ref C)) ∧ tMakeS C (spM X.K X.mg ps.length m) [] (WE Wx) t σ H Q, ⟨fun pins s σ H Q I h => ?_⟩, ?_⟩
  · obtain ⟨e1, h⟩ := h
    refine wpAny_Call_Name_kw (thn ((pe_var hN hv hdb hcd).run pins s σ H (fun v H' => v = .ref C ∧ H' = H) I ⟨_, e1, rfl, rfl⟩) fun u s1 ⟨v, H1, J, rv, e2, e3⟩ => ?_)
    subst e2 e3
    obtain rfl : u = Value.ref C := rv
    exact args_go M.kp pt hst hpl J h fun _ _ _ _ J r q => run_makeS M F.ok hr hb .nil (passAt tk σ) J r q
  · intro σ H io Fr s S0 r0 s' e Q hok hex
    unfold mMakeX at e
    split at e
    · rename_i z q
      exact ⟨(S0.exc i z q).1, ref_make hC .nil rf σ H io Fr s S0 r0 s' e Q hok hex⟩
    · cases e
end
theorem cread_z {K : PySem.W.Frag} {C : Addr} (h : PySem.W.readsIn K C (.type "type") = true) (g : PySem.W.specialIn K (.ref C) "__getattribute__" = some (some (.builtin "type.__getattribute__"))) : ClX.CRead K C (.type "type") := ⟨h, g⟩
theorem cmet_z {K : PySem.W.Frag} {C f : Addr} {m : Str} (h : He5.wrapB K C "classmethod" "classmethod.__get__" m = true) (e : He5.wf K C "classmethod" m = f) (hf : PySem.W.fnIn K f = true) : ∃ q, ClX.CMet K C (.type "type") m q f := by
  subst e
  exact ⟨_, He5.cmet_of h hf⟩
end Z
set_option Elab.async false
set_option linter.all false
set_option maxRecDepth 100000
set_option maxHeartbeats 4000000
namespace Z
open PySem PySem.Spec PyProof.Rows L2
def top (i : Nat) : Stmt := PySem.Challenge.pw_partkeepers_k08_full_and_joined_books.main.body.getD i (.Pass ⟨0, 0, 0, 0⟩)
abbrev s__law_numbers : Stmt := top 19
abbrev s__law_row : Stmt := top 20
abbrev s__law_rows : Stmt := top 21
abbrev s__law_cell : Stmt := top 18
abbrev s__law_lines : Stmt := top 22
abbrev s__law_triples : Stmt := top 23
abbrev s__law_counts : Stmt := top 24
abbrev s_Layout___init__ : Stmt := inClass (top 10) 0
abbrev s_Layout_is_line : Stmt := inClass (top 10) 7
abbrev s_Layout_lines : Stmt := inClass (top 10) 8
abbrev s_Layout___len__ : Stmt := inClass (top 10) 1
abbrev s_is_count : Stmt := top 12
abbrev s_ascending : Stmt := top 13
abbrev s_Book___init__ : Stmt := inClass (top 14) 0
abbrev s_Book_full : Stmt := inClass (top 14) 1
abbrev s__law_is_int : Stmt := top 17
abbrev s_Book___len__ : Stmt := inClass (top 14) 2
abbrev s__law_same_rows : Stmt := top 25
abbrev s_Book___iter__ : Stmt := inClass (top 14) 3
abbrev s__law_same_book : Stmt := top 26
abbrev s_Layout___iter__ : Stmt := inClass (top 10) 2
abbrev s_joined : Stmt := top 15
abbrev s_Book___ior__ : Stmt := inClass (top 14) 12
abbrev s__law_pairs_of : Stmt := top 27
abbrev s_Book_lines_of : Stmt := inClass (top 14) 14
abbrev s_Book___isub__ : Stmt := inClass (top 14) 13
abbrev s_law : Stmt := top 28
abbrev s_BadKey___init__ : Stmt := inClass (top 4) 0
abbrev s_BadCount___init__ : Stmt := inClass (top 6) 0
def ck0 (K : PySem.W.Frag) : List Bool := [fnB K (He.ga K "_law_numbers") "_law_numbers", fnB K (He.ga K "_law_row") "_law_row", fnB K (He.ga K "_law_rows") "_law_rows", fnB K (He.ga K "_law_cell") "_law_cell", fnB K (He.ga K "_law_lines") "_law_lines", fnB K (He.ga K "_law_triples") "_law_triples", fnB K (He.ga K "_law_counts") "_law_counts", fnB K (He.ma K (He.ga K "Layout") "__init__") "Layout.__init__", fnB K (He.ma K (He.ga K "Layout") "is_line") "Layout.is_line", fnB K (He.ma K (He.ga K "Layout") "lines") "Layout.lines", fnB K (He.ma K (He.ga K "Layout") "__len__") "Layout.__len__", fnB K (He.ga K "is_count") "is_count", fnB K (He.ga K "ascending") "ascending", fnBD K (He.ma K (He.ga K "Book") "__init__") "Book.__init__", fnB K (He5.wf K (He.ga K "Book") "classmethod" "full") "Book.full", fnB K (He.ga K "_law_is_int") "_law_is_int", fnB K (He.ma K (He.ga K "Book") "__len__") "Book.__len__", fnB K (He.ga K "_law_same_rows") "_law_same_rows", fnB K (He.ma K (He.ga K "Book") "__iter__") "Book.__iter__", fnB K (He.ga K "_law_same_book") "_law_same_book", fnB K (He.ma K (He.ga K "Layout") "__iter__") "Layout.__iter__", fnB K (He.ga K "joined") "joined", fnB K (He.ma K (He.ga K "Book") "__ior__") "Book.__ior__", fnB K (He.ga K "_law_pairs_of") "_law_pairs_of", fnB K (He.ma K (He.ga K "Book") "lines_of") "Book.lines_of", fnB K (He.ma K (He.ga K "Book") "__isub__") "Book.__isub__", fnB K (He.ga K "law") "law", fnB K (He.ma K (He.ga K "BadKey") "__init__") "BadKey.__init__", fnB K (He.ma K (He.ga K "BadCount") "__init__") "BadCount.__init__", intB K "MOST_COPIES" 6, intB K "MOST_KEYS" 8, decide (PySem.W.nsIn K mainGlobals "all" = some none), decide (PySem.W.nsIn K mainGlobals "bool" = some none), decide (PySem.W.nsIn K mainGlobals "int" = some none), decide (PySem.W.nsIn K mainGlobals "isinstance" = some none), decide (PySem.W.nsIn K mainGlobals "iter" = some none), decide (PySem.W.nsIn K mainGlobals "len" = some none), decide (PySem.W.nsIn K mainGlobals "list" = some none), decide (PySem.W.nsIn K mainGlobals "range" = some none), decide (PySem.W.nsIn K mainGlobals "sum" = some none)]
def ck1 (K : PySem.W.Frag) : List Bool := [decide (PySem.W.nsIn K mainGlobals "tuple" = some none), decide (PySem.W.nsIn K mainGlobals "KeeperError" = some (some (.ref (He.ga K "KeeperError")))), decide (PySem.W.keepIn K (.ref (He.ga K "KeeperError")) = true), decide (PySem.W.nsIn K mainGlobals "BadLayout" = some (some (.ref (He.ga K "BadLayout")))), decide (PySem.W.keepIn K (.ref (He.ga K "BadLayout")) = true), decide (PySem.W.nsIn K mainGlobals "BadKey" = some (some (.ref (He.ga K "BadKey")))), decide (PySem.W.keepIn K (.ref (He.ga K "BadKey")) = true), decide (PySem.W.nsIn K mainGlobals "NoCopy" = some (some (.ref (He.ga K "NoCopy")))), decide (PySem.W.keepIn K (.ref (He.ga K "NoCopy")) = true), decide (PySem.W.nsIn K mainGlobals "BadCount" = some (some (.ref (He.ga K "BadCount")))), decide (PySem.W.keepIn K (.ref (He.ga K "BadCount")) = true), decide (PySem.W.nsIn K mainGlobals "Layout" = some (some (.ref (He.ga K "Layout")))), decide (PySem.W.keepIn K (.ref (He.ga K "Layout")) = true), decide (PySem.W.nsIn K mainGlobals "Book" = some (some (.ref (He.ga K "Book")))), decide (PySem.W.keepIn K (.ref (He.ga K "Book")) = true), decide (PySem.W.plainGet K (He.ga K "Layout") Str.empty = true), decide (PySem.W.hasDictIn K (He.ga K "Layout") = true), decide (PySem.W.plainOver K (He.ga K "Layout") = true), decide (PySem.W.findIn K (.ref (He.ga K "Layout")) "__setattr__" = some (some (.builtin "object.__setattr__"))), decide (PySem.W.makesIn K (He.ga K "Layout") = true), decide (PySem.W.findIn K (.ref (He.ga K "Layout")) "__class__" = some (some (.builtin "object.__class__"))), decide (PySem.W.mroIn K (He.ga K "Layout") (.type "object") = some true), decide (PySem.W.kitOne K (.ref (He.ga K "Layout")) (.ref (He.ga K "Layout")) = some true), decide (PySem.W.plainGet K (He.ga K "Book") Str.empty = true), decide (PySem.W.hasDictIn K (He.ga K "Book") = true), decide (PySem.W.plainOver K (He.ga K "Book") = true), decide (PySem.W.findIn K (.ref (He.ga K "Book")) "__setattr__" = some (some (.builtin "object.__setattr__"))), decide (PySem.W.makesIn K (He.ga K "Book") = true), decide (PySem.W.findIn K (.ref (He.ga K "Book")) "__class__" = some (some (.builtin "object.__class__"))), decide (PySem.W.mroIn K (He.ga K "Book") (.type "object") = some true), decide (PySem.W.kitOne K (.ref (He.ga K "Book")) (.ref (He.ga K "Book")) = some true), decide (PySem.W.specialIn K (.builtin "object.__class__") "__get__" = some (some (.builtin "getset_descriptor.__get__"))), decide (PySem.W.takesIn K (.builtin "object.__class__") = some true), decide (PySem.W.findIn K (.ref (He.ga K "Layout")) "masks" = some none), decide (PySem.W.findIn K (.ref (He.ga K "Book")) "rows" = some none), decide (PySem.W.findIn K (.ref (He.ga K "Layout")) "rows" = some none), decide (PySem.W.kitOne K (.ref (He.ga K "Book")) (.ref (He.ga K "Book")) = some true), decide (PySem.W.kitOne K (.ref (He.ga K "Layout")) (.ref (He.ga K "Book")) = some false), decide (PySem.W.kitOne K (.type "dict") (.ref (He.ga K "Book")) = some false), decide (PySem.W.kitOne K (.type "list") (.ref (He.ga K "Book")) = some false)]
def ck2 (K : PySem.W.Frag) : List Bool := [decide (PySem.W.kitOne K (.type "tuple") (.ref (He.ga K "Book")) = some false), decide (PySem.W.kitOne K (.type "bytes") (.ref (He.ga K "Book")) = some false), decide (PySem.W.kitOne K (.type "str") (.ref (He.ga K "Book")) = some false), decide (PySem.W.kitOne K (.type "int") (.ref (He.ga K "Book")) = some false), decide (PySem.W.kitOne K (.type "bool") (.ref (He.ga K "Book")) = some false), decide (PySem.W.kitOne K (.type "NoneType") (.ref (He.ga K "Book")) = some false), decide (PySem.W.kitOne K (.ref (He.ga K "Book")) (.type "bool") = some false), decide (PySem.W.kitOne K (.ref (He.ga K "Layout")) (.type "bool") = some false), decide (PySem.W.kitOne K (.ref (He.ga K "Book")) (.type "int") = some false), decide (PySem.W.kitOne K (.ref (He.ga K "Layout")) (.type "int") = some false), decide (PySem.W.kitOne K (.ref (He.ga K "Book")) (.type "list") = some false), decide (PySem.W.kitOne K (.ref (He.ga K "Layout")) (.type "list") = some false), decide (PySem.W.kitOne K (.ref (He.ga K "Book")) (.type "tuple") = some false), decide (PySem.W.kitOne K (.ref (He.ga K "Layout")) (.type "tuple") = some false), decide (PySem.W.notFirst K (He.ga K "Book") (.ref (He.ga K "Book")) = true), decide (PySem.W.notFirst K (He.ga K "Book") (.ref (He.ga K "Layout")) = true), decide (PySem.W.notFirst K (He.ga K "Book") (.type "dict") = true), decide (PySem.W.notFirst K (He.ga K "Book") (.type "list") = true), decide (PySem.W.notFirst K (He.ga K "Book") (.type "tuple") = true), decide (PySem.W.notFirst K (He.ga K "Book") (.type "bytes") = true), decide (PySem.W.notFirst K (He.ga K "Book") (.type "str") = true), decide (PySem.W.notFirst K (He.ga K "Book") (.type "int") = true), decide (PySem.W.notFirst K (He.ga K "Book") (.type "bool") = true), decide (PySem.W.notFirst K (He.ga K "Book") (.type "NoneType") = true), decide (PySem.W.selfFirst K (He.ga K "Book") = true), excB K (He.ga K "BadCount") [.ref (He.ga K "KeeperError"), .type "ValueError", .type "Exception", .type "BaseException", .type "object"] "ValueError.__new__", decide (PySem.W.findIn K (.ref (He.ga K "BadCount")) "__setattr__" = some (some (.builtin "object.__setattr__"))), decide (PySem.W.subIn K (.ref (He.ga K "BadCount")) (.type "BaseException") = some true), decide (PySem.W.typeIn K (.ref (He.ga K "BadCount")) = some (.type "type")), decide (PySem.W.findIn K (.ref (He.ga K "BadCount")) "triple" = some none), decide (PySem.W.findIn K (.ref (He.ga K "BadCount")) "__init__" = some (some (.ref (He.ma K (He.ga K "BadCount") "__init__")))), decide (PySem.W.typeIn K (.ref (He.ma K (He.ga K "BadCount") "__init__")) = some (.type "function")), excB K (He.ga K "BadKey") [.ref (He.ga K "KeeperError"), .type "ValueError", .type "Exception", .type "BaseException", .type "object"] "ValueError.__new__", decide (PySem.W.findIn K (.ref (He.ga K "BadKey")) "__setattr__" = some (some (.builtin "object.__setattr__"))), decide (PySem.W.subIn K (.ref (He.ga K "BadKey")) (.type "BaseException") = some true), decide (PySem.W.typeIn K (.ref (He.ga K "BadKey")) = some (.type "type")), decide (PySem.W.findIn K (.ref (He.ga K "BadKey")) "key" = some none), decide (PySem.W.findIn K (.ref (He.ga K "BadKey")) "__init__" = some (some (.ref (He.ma K (He.ga K "BadKey") "__init__")))), decide (PySem.W.typeIn K (.ref (He.ma K (He.ga K "BadKey") "__init__")) = some (.type "function")), decide (PySem.W.excIn K (He.ga K "BadLayout") [.type "ValueError", .type "Exception", .type "BaseException", .type "object"] "ValueError.__new__" = true)]
def ck3 (K : PySem.W.Frag) : List Bool := [decide (PySem.W.subIn K (.ref (He.ga K "BadLayout")) (.type "BaseException") = some true), decide (PySem.W.typeIn K (.ref (He.ga K "BadLayout")) = some (.type "type")), decide (PySem.W.keepIn K (.ref (He.ga K "_law_numbers")) = true), decide (PySem.W.nsIn K mainGlobals "_law_numbers" = some (some (.ref (He.ga K "_law_numbers")))), decide (PySem.W.keepIn K (.ref (He.ga K "_law_row")) = true), decide (PySem.W.nsIn K mainGlobals "_law_row" = some (some (.ref (He.ga K "_law_row")))), decide (PySem.W.keepIn K (.ref (He.ga K "_law_rows")) = true), decide (PySem.W.nsIn K mainGlobals "_law_rows" = some (some (.ref (He.ga K "_law_rows")))), decide (PySem.W.keepIn K (.ref (He.ga K "_law_cell")) = true), decide (PySem.W.nsIn K mainGlobals "_law_cell" = some (some (.ref (He.ga K "_law_cell")))), decide (PySem.W.keepIn K (.ref (He.ga K "_law_lines")) = true), decide (PySem.W.nsIn K mainGlobals "_law_lines" = some (some (.ref (He.ga K "_law_lines")))), decide (PySem.W.keepIn K (.ref (He.ga K "_law_triples")) = true), decide (PySem.W.nsIn K mainGlobals "_law_triples" = some (some (.ref (He.ga K "_law_triples")))), decide (PySem.W.keepIn K (.ref (He.ga K "_law_counts")) = true), decide (PySem.W.nsIn K mainGlobals "_law_counts" = some (some (.ref (He.ga K "_law_counts")))), decide (PySem.W.keepIn K (.ref (He.ma K (He.ga K "Layout") "__init__")) = true), decide (PySem.W.findIn K (.ref (He.ga K "Layout")) "__init__" = some (some (.ref (He.ma K (He.ga K "Layout") "__init__")))), decide (PySem.W.isFn K (.ref (He.ma K (He.ga K "Layout") "__init__")) = true), decide (PySem.W.keepIn K (.ref (He.ma K (He.ga K "Layout") "is_line")) = true), decide (PySem.W.findIn K (.ref (He.ga K "Layout")) "is_line" = some (some (.ref (He.ma K (He.ga K "Layout") "is_line")))), decide (PySem.W.isFn K (.ref (He.ma K (He.ga K "Layout") "is_line")) = true), decide (PySem.W.keepIn K (.ref (He.ma K (He.ga K "Layout") "lines")) = true), decide (PySem.W.findIn K (.ref (He.ga K "Layout")) "lines" = some (some (.ref (He.ma K (He.ga K "Layout") "lines")))), decide (PySem.W.isFn K (.ref (He.ma K (He.ga K "Layout") "lines")) = true), decide (PySem.W.keepIn K (.ref (He.ma K (He.ga K "Layout") "__len__")) = true), decide (PySem.W.findIn K (.ref (He.ga K "Layout")) "__len__" = some (some (.ref (He.ma K (He.ga K "Layout") "__len__")))), decide (PySem.W.isFn K (.ref (He.ma K (He.ga K "Layout") "__len__")) = true), decide (PySem.W.keepIn K (.ref (He.ga K "is_count")) = true), decide (PySem.W.nsIn K mainGlobals "is_count" = some (some (.ref (He.ga K "is_count")))), decide (PySem.W.keepIn K (.ref (He.ga K "ascending")) = true), decide (PySem.W.nsIn K mainGlobals "ascending" = some (some (.ref (He.ga K "ascending")))), decide (PySem.W.keepIn K (.ref (He.ma K (He.ga K "Book") "__init__")) = true), decide (PySem.W.findIn K (.ref (He.ga K "Book")) "__init__" = some (some (.ref (He.ma K (He.ga K "Book") "__init__")))), decide (PySem.W.isFn K (.ref (He.ma K (He.ga K "Book") "__init__")) = true), decide (PySem.W.keepIn K (.ref (He5.wf K (He.ga K "Book") "classmethod" "full")) = true), decide (PySem.W.readsIn K (He.ga K "Book") (.type "type") = true), decide (PySem.W.specialIn K (.ref (He.ga K "Book")) "__getattribute__" = some (some (.builtin "type.__getattribute__"))), decide (He5.wrapB K (He.ga K "Book") "classmethod" "classmethod.__get__" "full" = true), decide (He5.wf K (He.ga K "Book") "classmethod" "full" = (He5.wf K (He.ga K "Book") "classmethod" "full"))]
def ck4 (K : PySem.W.Frag) : List Bool := [decide (PySem.W.fnIn K (He5.wf K (He.ga K "Book") "classmethod" "full") = true), decide (PySem.W.keepIn K (.ref (He.ga K "_law_is_int")) = true), decide (PySem.W.nsIn K mainGlobals "_law_is_int" = some (some (.ref (He.ga K "_law_is_int")))), decide (PySem.W.keepIn K (.ref (He.ma K (He.ga K "Book") "__len__")) = true), decide (PySem.W.findIn K (.ref (He.ga K "Book")) "__len__" = some (some (.ref (He.ma K (He.ga K "Book") "__len__")))), decide (PySem.W.isFn K (.ref (He.ma K (He.ga K "Book") "__len__")) = true), decide (PySem.W.keepIn K (.ref (He.ga K "_law_same_rows")) = true), decide (PySem.W.nsIn K mainGlobals "_law_same_rows" = some (some (.ref (He.ga K "_law_same_rows")))), decide (PySem.W.keepIn K (.ref (He.ma K (He.ga K "Book") "__iter__")) = true), decide (PySem.W.findIn K (.ref (He.ga K "Book")) "__iter__" = some (some (.ref (He.ma K (He.ga K "Book") "__iter__")))), decide (PySem.W.isFn K (.ref (He.ma K (He.ga K "Book") "__iter__")) = true), decide (PySem.W.keepIn K (.ref (He.ga K "_law_same_book")) = true), decide (PySem.W.nsIn K mainGlobals "_law_same_book" = some (some (.ref (He.ga K "_law_same_book")))), decide (PySem.W.keepIn K (.ref (He.ma K (He.ga K "Layout") "__iter__")) = true), decide (PySem.W.findIn K (.ref (He.ga K "Layout")) "__iter__" = some (some (.ref (He.ma K (He.ga K "Layout") "__iter__")))), decide (PySem.W.isFn K (.ref (He.ma K (He.ga K "Layout") "__iter__")) = true), decide (PySem.W.keepIn K (.ref (He.ga K "joined")) = true), decide (PySem.W.nsIn K mainGlobals "joined" = some (some (.ref (He.ga K "joined")))), decide (PySem.W.keepIn K (.ref (He.ma K (He.ga K "Book") "__ior__")) = true), decide (PySem.W.findIn K (.ref (He.ga K "Book")) "__ior__" = some (some (.ref (He.ma K (He.ga K "Book") "__ior__")))), decide (PySem.W.isFn K (.ref (He.ma K (He.ga K "Book") "__ior__")) = true), decide (PySem.W.keepIn K (.ref (He.ga K "_law_pairs_of")) = true), decide (PySem.W.nsIn K mainGlobals "_law_pairs_of" = some (some (.ref (He.ga K "_law_pairs_of")))), decide (PySem.W.keepIn K (.ref (He.ma K (He.ga K "Book") "lines_of")) = true), decide (PySem.W.findIn K (.ref (He.ga K "Book")) "lines_of" = some (some (.ref (He.ma K (He.ga K "Book") "lines_of")))), decide (PySem.W.isFn K (.ref (He.ma K (He.ga K "Book") "lines_of")) = true), decide (PySem.W.keepIn K (.ref (He.ma K (He.ga K "Book") "__isub__")) = true), decide (PySem.W.findIn K (.ref (He.ga K "Book")) "__isub__" = some (some (.ref (He.ma K (He.ga K "Book") "__isub__")))), decide (PySem.W.isFn K (.ref (He.ma K (He.ga K "Book") "__isub__")) = true), decide (PySem.W.keepIn K (.ref (He.ga K "law")) = true), decide (PySem.W.nsIn K mainGlobals "law" = some (some (.ref (He.ga K "law")))), decide (PySem.W.keepIn K (.ref (He.ma K (He.ga K "BadKey") "__init__")) = true), decide (PySem.W.keepIn K (.ref (He.ma K (He.ga K "BadCount") "__init__")) = true)]
def chkZ (K : PySem.W.Frag) : Bool := ((ck0 K).all fun b => b) && (((ck1 K).all fun b => b) && (((ck2 K).all fun b => b) && (((ck3 K).all fun b => b) && (((ck4 K).all fun b => b)))))
def fnZl0 : List (PySem.W.Frag → Addr) := [fun K => He.ga K "_law_numbers", fun K => He.ga K "_law_row", fun K => He.ga K "_law_rows", fun K => He.ga K "_law_cell", fun K => He.ga K "_law_lines", fun K => He.ga K "_law_triples", fun K => He.ga K "_law_counts", fun K => He.ma K (He.ga K "Layout") "__init__", fun K => He.ma K (He.ga K "Layout") "is_line", fun K => He.ma K (He.ga K "Layout") "lines", fun K => He.ma K (He.ga K "Layout") "__len__", fun K => He.ga K "is_count", fun K => He.ga K "ascending", fun K => He.ma K (He.ga K "Book") "__init__", fun K => He5.wf K (He.ga K "Book") "classmethod" "full", fun K => He.ga K "_law_is_int", fun K => He.ma K (He.ga K "Book") "__len__", fun K => He.ga K "_law_same_rows", fun K => He.ma K (He.ga K "Book") "__iter__", fun K => He.ga K "_law_same_book", fun K => He.ma K (He.ga K "Layout") "__iter__", fun K => He.ga K "joined", fun K => He.ma K (He.ga K "Book") "__ior__", fun K => He.ga K "_law_pairs_of", fun K => He.ma K (He.ga K "Book") "lines_of", fun K => He.ma K (He.ga K "Book") "__isub__", fun K => He.ga K "law", fun K => He.ma K (He.ga K "BadKey") "__init__", fun K => He.ma K (He.ga K "BadCount") "__init__"]
def fnZl : List (PySem.W.Frag → Addr) := fnZl0
def vsZl0 : List FnZ := [some ("_law_numbers", "_law_numbers", defArgs s__law_numbers, .stmts (defBody s__law_numbers), defScope s__law_numbers), some ("_law_row", "_law_row", defArgs s__law_row, .stmts (defBody s__law_row), defScope s__law_row), some ("_law_rows", "_law_rows", defArgs s__law_rows, .stmts (defBody s__law_rows), defScope s__law_rows), some ("_law_cell", "_law_cell", defArgs s__law_cell, .stmts (defBody s__law_cell), defScope s__law_cell), some ("_law_lines", "_law_lines", defArgs s__law_lines, .stmts (defBody s__law_lines), defScope s__law_lines), some ("_law_triples", "_law_triples", defArgs s__law_triples, .stmts (defBody s__law_triples), defScope s__law_triples), some ("_law_counts", "_law_counts", defArgs s__law_counts, .stmts (defBody s__law_counts), defScope s__law_counts), some ("__init__", "Layout.__init__", defArgs s_Layout___init__, .stmts (defBody s_Layout___init__), defScope s_Layout___init__), some ("is_line", "Layout.is_line", defArgs s_Layout_is_line, .stmts (defBody s_Layout_is_line), defScope s_Layout_is_line), some ("lines", "Layout.lines", defArgs s_Layout_lines, .stmts (defBody s_Layout_lines), defScope s_Layout_lines), some ("__len__", "Layout.__len__", defArgs s_Layout___len__, .stmts (defBody s_Layout___len__), defScope s_Layout___len__), some ("is_count", "is_count", defArgs s_is_count, .stmts (defBody s_is_count), defScope s_is_count), some ("ascending", "ascending", defArgs s_ascending, .stmts (defBody s_ascending), defScope s_ascending), some ("__init__", "Book.__init__", defArgs s_Book___init__, .stmts (defBody s_Book___init__), defScope s_Book___init__), some ("full", "Book.full", defArgs s_Book_full, .stmts (defBody s_Book_full), defScope s_Book_full), some ("_law_is_int", "_law_is_int", defArgs s__law_is_int, .stmts (defBody s__law_is_int), defScope s__law_is_int), some ("__len__", "Book.__len__", defArgs s_Book___len__, .stmts (defBody s_Book___len__), defScope s_Book___len__), some ("_law_same_rows", "_law_same_rows", defArgs s__law_same_rows, .stmts (defBody s__law_same_rows), defScope s__law_same_rows), some ("__iter__", "Book.__iter__", defArgs s_Book___iter__, .stmts (defBody s_Book___iter__), defScope s_Book___iter__), some ("_law_same_book", "_law_same_book", defArgs s__law_same_book, .stmts (defBody s__law_same_book), defScope s__law_same_book), some ("__iter__", "Layout.__iter__", defArgs s_Layout___iter__, .stmts (defBody s_Layout___iter__), defScope s_Layout___iter__), some ("joined", "joined", defArgs s_joined, .stmts (defBody s_joined), defScope s_joined), some ("__ior__", "Book.__ior__", defArgs s_Book___ior__, .stmts (defBody s_Book___ior__), defScope s_Book___ior__), some ("_law_pairs_of", "_law_pairs_of", defArgs s__law_pairs_of, .stmts (defBody s__law_pairs_of), defScope s__law_pairs_of), some ("lines_of", "Book.lines_of", defArgs s_Book_lines_of, .stmts (defBody s_Book_lines_of), defScope s_Book_lines_of), some ("__isub__", "Book.__isub__", defArgs s_Book___isub__, .stmts (defBody s_Book___isub__), defScope s_Book___isub__), some ("law", "law", defArgs s_law, .stmts (defBody s_law), defScope s_law), some ("__init__", "BadKey.__init__", defArgs s_BadKey___init__, .stmts (defBody s_BadKey___init__), defScope s_BadKey___init__), some ("__init__", "BadCount.__init__", defArgs s_BadCount___init__, .stmts (defBody s_BadCount___init__), defScope s_BadCount___init__)]
def vsZl : List FnZ := vsZl0
def loose0 : List Str := ["_wall", "__name__", "KeeperError", "BadLayout", "BadKey", "NoCopy", "BadCount", "MOST_COPIES", "MOST_KEYS", "Layout", "is_count", "ascending", "Book", "joined", "_law_is_int", "_law_cell", "_law_numbers", "_law_row", "_law_rows", "_law_lines", "_law_triples", "_law_counts", "_law_same_rows", "_law_same_book", "_law_pairs_of"]
def loose : List Str := loose0
abbrev hk : PySem.W.Hook := hookZ 6 chkZ fnZl vsZl
def obZ (x : PySem.W.SharedT) : Bool × List FnZ := obsZ 6 chkZ fnZl (HandSHeadRun.getT x)
theorem runZ (w : World) : HandSHeadRun.RunEq (PySem.W.OpenLaw.row PySem.Challenge.rw_partkeepers_k08_full_and_joined_books) (PySem.W.view (PySem.W.OpenLaw.row PySem.Challenge.rw_partkeepers_k08_full_and_joined_books).prog [28]) hk obZ 60000 loose w := by
  intro os
  kernel_rfl
end Z
set_option Elab.async false
set_option linter.all false
set_option maxRecDepth 100000
set_option maxHeartbeats 4000000
namespace Z
open PySem PySem.Spec PyProof.Rows L2
def fn_masks : List Str := ["Layout"]
def fn_rows : List Str := ["Layout", "Book"]
def ti_Book : List (CT × Bool) := [(.ty "NoneType", false), (.ty "bool", false), (.ty "int", false), (.ty "str", false), (.ty "bytes", false), (.ty "tuple", false), (.ty "list", false), (.ty "dict", false), (.own "Layout", false), (.own "Book", true)]
def ti_bool : List (CT × Bool) := [(.ty "NoneType", false), (.ty "bool", true), (.ty "int", false), (.ty "str", false), (.ty "bytes", false), (.ty "tuple", false), (.ty "list", false), (.ty "dict", false), (.own "Layout", false), (.own "Book", false)]
def ti_int : List (CT × Bool) := [(.ty "NoneType", false), (.ty "bool", true), (.ty "int", true), (.ty "str", false), (.ty "bytes", false), (.ty "tuple", false), (.ty "list", false), (.ty "dict", false), (.own "Layout", false), (.own "Book", false)]
def ti_list : List (CT × Bool) := [(.ty "NoneType", false), (.ty "bool", false), (.ty "int", false), (.ty "str", false), (.ty "bytes", false), (.ty "tuple", false), (.ty "list", true), (.ty "dict", false), (.own "Layout", false), (.own "Book", false)]
def ti_tuple : List (CT × Bool) := [(.ty "NoneType", false), (.ty "bool", false), (.ty "int", false), (.ty "str", false), (.ty "bytes", false), (.ty "tuple", true), (.ty "list", false), (.ty "dict", false), (.own "Layout", false), (.own "Book", false)]
def nf_Book : List CT := [.ty "NoneType", .ty "bool", .ty "int", .ty "str", .ty "bytes", .ty "tuple", .ty "list", .ty "dict", .own "Layout", .own "Book"]
structure Tx (P : Program) (K : PySem.W.Frag) (mg : Str → Option Value) where
  C_KeeperError : Addr
  C_BadLayout : Addr
  C_BadKey : Addr
  C_NoCopy : Addr
  C_BadCount : Addr
  C_Layout : Addr
  C_Book : Addr
  f__law_numbers : Addr
  f__law_row : Addr
  f__law_rows : Addr
  f__law_cell : Addr
  f__law_lines : Addr
  f__law_triples : Addr
  f__law_counts : Addr
  f_Layout___init__ : Addr
  f_Layout_is_line : Addr
  f_Layout_lines : Addr
  f_Layout___len__ : Addr
  f_is_count : Addr
  f_ascending : Addr
  f_Book___init__ : Addr
  f_Book_full : Addr
  f__law_is_int : Addr
  f_Book___len__ : Addr
  f__law_same_rows : Addr
  f_Book___iter__ : Addr
  f__law_same_book : Addr
  f_Layout___iter__ : Addr
  f_joined : Addr
  f_Book___ior__ : Addr
  f__law_pairs_of : Addr
  f_Book_lines_of : Addr
  f_Book___isub__ : Addr
  f_law : Addr
  f_BadKey___init__ : Addr
  f_BadCount___init__ : Addr
  fd__law_numbers : FuncData
  fd__law_row : FuncData
  fd__law_rows : FuncData
  fd__law_cell : FuncData
  fd__law_lines : FuncData
  fd__law_triples : FuncData
  fd__law_counts : FuncData
  fd_Layout___init__ : FuncData
  fd_Layout_is_line : FuncData
  fd_Layout_lines : FuncData
  fd_Layout___len__ : FuncData
  fd_is_count : FuncData
  fd_ascending : FuncData
  fd_Book___init__ : FuncData
  fd_Book_full : FuncData
  fd__law_is_int : FuncData
  fd_Book___len__ : FuncData
  fd__law_same_rows : FuncData
  fd_Book___iter__ : FuncData
  fd__law_same_book : FuncData
  fd_Layout___iter__ : FuncData
  fd_joined : FuncData
  fd_Book___ior__ : FuncData
  fd__law_pairs_of : FuncData
  fd_Book_lines_of : FuncData
  fd_Book___isub__ : FuncData
  fd_law : FuncData
  fd_BadKey___init__ : FuncData
  fd_BadCount___init__ : FuncData
  E_Book___init__ : Addr
  v_MOST_COPIES : ∃ t, mg "MOST_COPIES" = some (.int 6 t)
  v_MOST_KEYS : ∃ t, mg "MOST_KEYS" = some (.int 8 t)
  n_all : mg "all" = none
  n_bool : mg "bool" = none
  n_int : mg "int" = none
  n_isinstance : mg "isinstance" = none
  n_iter : mg "iter" = none
  n_len : mg "len" = none
  n_list : mg "list" = none
  n_range : mg "range" = none
  n_sum : mg "sum" = none
  n_tuple : mg "tuple" = none
  c_KeeperError : mg "KeeperError" = some (.ref C_KeeperError)
  kp_KeeperError : PySem.W.keepIn K (.ref C_KeeperError) = true
  c_BadLayout : mg "BadLayout" = some (.ref C_BadLayout)
  kp_BadLayout : PySem.W.keepIn K (.ref C_BadLayout) = true
  c_BadKey : mg "BadKey" = some (.ref C_BadKey)
  kp_BadKey : PySem.W.keepIn K (.ref C_BadKey) = true
  c_NoCopy : mg "NoCopy" = some (.ref C_NoCopy)
  kp_NoCopy : PySem.W.keepIn K (.ref C_NoCopy) = true
  c_BadCount : mg "BadCount" = some (.ref C_BadCount)
  kp_BadCount : PySem.W.keepIn K (.ref C_BadCount) = true
  c_Layout : mg "Layout" = some (.ref C_Layout)
  kp_Layout : PySem.W.keepIn K (.ref C_Layout) = true
  c_Book : mg "Book" = some (.ref C_Book)
  kp_Book : PySem.W.keepIn K (.ref C_Book) = true
  cl_Layout : Cls K C_Layout
  mk_Layout : PySem.W.makesIn K C_Layout = true
  nI_Layout : NoAttr K C_Layout "rows"
  in_Layout : C8.InsC K C_Layout
  cl_Book : Cls K C_Book
  mk_Book : PySem.W.makesIn K C_Book = true
  nI_Book : NoAttr K C_Book "rows"
  in_Book : C8.InsC K C_Book
  fd_masks : ClsN K mg fn_masks "masks"
  fd_rows : ClsN K mg fn_rows "rows"
  ist_Book : IsTab K mg (.ref C_Book) ti_Book
  ist_bool : IsTab K mg (.type "bool") ti_bool
  ist_int : IsTab K mg (.type "int") ti_int
  ist_list : IsTab K mg (.type "list") ti_list
  ist_tuple : IsTab K mg (.type "tuple") ti_tuple
  nft_Book : NfTab K mg C_Book nf_Book
  sf_Book : PySem.W.selfFirst K C_Book = true
  nfs_Book : PySem.W.notFirst K C_Book (.ref C_Book) = true
  ox_BadCount : OexC K C_BadCount
  xn_BadCount : ∀ f ∈ (["triple"] : List Str), PySem.W.findIn K (.ref C_BadCount) f = some none
  xf1_BadCount : PySem.W.findIn K (.ref C_BadCount) "__init__" = some (some (.ref f_BadCount___init__))
  xf2_BadCount : PySem.W.typeIn K (.ref f_BadCount___init__) = some (.type "function")
  ox_BadKey : OexC K C_BadKey
  xn_BadKey : ∀ f ∈ (["key"] : List Str), PySem.W.findIn K (.ref C_BadKey) f = some none
  xf1_BadKey : PySem.W.findIn K (.ref C_BadKey) "__init__" = some (some (.ref f_BadKey___init__))
  xf2_BadKey : PySem.W.typeIn K (.ref f_BadKey___init__) = some (.type "function")
  xi_BadLayout : PySem.W.excIn K C_BadLayout [.type "ValueError", .type "Exception", .type "BaseException", .type "object"] "ValueError.__new__" = true
  xb_BadLayout : PySem.W.subIn K (.ref C_BadLayout) (.type "BaseException") = some true
  xt_BadLayout : PySem.W.typeIn K (.ref C_BadLayout) = some (.type "type")
  F__law_numbers : Fun K "_law_numbers" "_law_numbers" s__law_numbers f__law_numbers fd__law_numbers
  b__law_numbers : Binds K fd__law_numbers ["_law_cell_here", "_law_salt", "_law_limits"] []
  g__law_numbers : mg "_law_numbers" = some (.ref f__law_numbers)
  F__law_row : Fun K "_law_row" "_law_row" s__law_row f__law_row fd__law_row
  b__law_row : Binds K fd__law_row ["_law_kind", "_law_copy", "_law_many", "_law_number"] []
  g__law_row : mg "_law_row" = some (.ref f__law_row)
  F__law_rows : Fun K "_law_rows" "_law_rows" s__law_rows f__law_rows fd__law_rows
  b__law_rows : Binds K fd__law_rows ["_law_cell_here", "_law_least", "_law_top"] []
  g__law_rows : mg "_law_rows" = some (.ref f__law_rows)
  F__law_cell : Fun K "_law_cell" "_law_cell" s__law_cell f__law_cell fd__law_cell
  b__law_cell : Binds K fd__law_cell ["_law_script", "_law_k"] []
  g__law_cell : mg "_law_cell" = some (.ref f__law_cell)
  F__law_lines : Fun K "_law_lines" "_law_lines" s__law_lines f__law_lines fd__law_lines
  b__law_lines : Binds K fd__law_lines ["_law_rows_here"] []
  g__law_lines : mg "_law_lines" = some (.ref f__law_lines)
  F__law_triples : Fun K "_law_triples" "_law_triples" s__law_triples f__law_triples fd__law_triples
  b__law_triples : Binds K fd__law_triples ["_law_many"] []
  g__law_triples : mg "_law_triples" = some (.ref f__law_triples)
  F__law_counts : Fun K "_law_counts" "_law_counts" s__law_counts f__law_counts fd__law_counts
  b__law_counts : Binds K fd__law_counts ["_law_cell_here", "_law_many"] []
  g__law_counts : mg "_law_counts" = some (.ref f__law_counts)
  F_Layout___init__ : Fun K "__init__" "Layout.__init__" s_Layout___init__ f_Layout___init__ fd_Layout___init__
  b_Layout___init__ : Binds K fd_Layout___init__ ["self", "rows"] []
  mt_Layout___init__ : Meth K C_Layout "__init__" f_Layout___init__
  F_Layout_is_line : Fun K "is_line" "Layout.is_line" s_Layout_is_line f_Layout_is_line fd_Layout_is_line
  b_Layout_is_line : Binds K fd_Layout_is_line ["self", "sender", "taker"] []
  mt_Layout_is_line : Meth K C_Layout "is_line" f_Layout_is_line
  F_Layout_lines : Fun K "lines" "Layout.lines" s_Layout_lines f_Layout_lines fd_Layout_lines
  b_Layout_lines : Binds K fd_Layout_lines ["self"] []
  mt_Layout_lines : Meth K C_Layout "lines" f_Layout_lines
  F_Layout___len__ : Fun K "__len__" "Layout.__len__" s_Layout___len__ f_Layout___len__ fd_Layout___len__
  b_Layout___len__ : Binds K fd_Layout___len__ ["self"] []
  mt_Layout___len__ : Meth K C_Layout "__len__" f_Layout___len__
  F_is_count : Fun K "is_count" "is_count" s_is_count f_is_count fd_is_count
  b_is_count : Binds K fd_is_count ["triple"] []
  g_is_count : mg "is_count" = some (.ref f_is_count)
  F_ascending : Fun K "ascending" "ascending" s_ascending f_ascending fd_ascending
  b_ascending : Binds K fd_ascending ["counts"] []
  g_ascending : mg "ascending" = some (.ref f_ascending)
  F_Book___init__ : FunE K "__init__" "Book.__init__" s_Book___init__ f_Book___init__ fd_Book___init__ E_Book___init__
  df_Book___init__ : Dfl K mg [.tup []] [.ref E_Book___init__]
  b_Book___init__ : Binds K fd_Book___init__ ["self", "counts"] []
  bd_Book___init__ : Binds K fd_Book___init__ ["self", "counts"] [.ref E_Book___init__]
  mt_Book___init__ : Meth K C_Book "__init__" f_Book___init__
  F_Book_full : Fun K "full" "Book.full" s_Book_full f_Book_full fd_Book_full
  b_Book_full : Binds K fd_Book_full ["cls", "layout"] []
  crd_Book : ClX.CRead K C_Book (.type "type")
  cm_Book_full : ∃ q, ClX.CMet K C_Book (.type "type") "full" q f_Book_full
  F__law_is_int : Fun K "_law_is_int" "_law_is_int" s__law_is_int f__law_is_int fd__law_is_int
  b__law_is_int : Binds K fd__law_is_int ["_law_given"] []
  g__law_is_int : mg "_law_is_int" = some (.ref f__law_is_int)
  F_Book___len__ : Fun K "__len__" "Book.__len__" s_Book___len__ f_Book___len__ fd_Book___len__
  b_Book___len__ : Binds K fd_Book___len__ ["self"] []
  mt_Book___len__ : Meth K C_Book "__len__" f_Book___len__
  F__law_same_rows : Fun K "_law_same_rows" "_law_same_rows" s__law_same_rows f__law_same_rows fd__law_same_rows
  b__law_same_rows : Binds K fd__law_same_rows ["_law_told", "_law_due"] []
  g__law_same_rows : mg "_law_same_rows" = some (.ref f__law_same_rows)
  F_Book___iter__ : Fun K "__iter__" "Book.__iter__" s_Book___iter__ f_Book___iter__ fd_Book___iter__
  b_Book___iter__ : Binds K fd_Book___iter__ ["self"] []
  mt_Book___iter__ : Meth K C_Book "__iter__" f_Book___iter__
  F__law_same_book : Fun K "_law_same_book" "_law_same_book" s__law_same_book f__law_same_book fd__law_same_book
  b__law_same_book : Binds K fd__law_same_book ["_law_book", "_law_due"] []
  g__law_same_book : mg "_law_same_book" = some (.ref f__law_same_book)
  F_Layout___iter__ : Fun K "__iter__" "Layout.__iter__" s_Layout___iter__ f_Layout___iter__ fd_Layout___iter__
  b_Layout___iter__ : Binds K fd_Layout___iter__ ["self"] []
  mt_Layout___iter__ : Meth K C_Layout "__iter__" f_Layout___iter__
  F_joined : Fun K "joined" "joined" s_joined f_joined fd_joined
  g_joined : mg "joined" = some (.ref f_joined)
  F_Book___ior__ : Fun K "__ior__" "Book.__ior__" s_Book___ior__ f_Book___ior__ fd_Book___ior__
  b_Book___ior__ : Binds K fd_Book___ior__ ["self", "other"] []
  mt_Book___ior__ : Meth K C_Book "__ior__" f_Book___ior__
  F__law_pairs_of : Fun K "_law_pairs_of" "_law_pairs_of" s__law_pairs_of f__law_pairs_of fd__law_pairs_of
  b__law_pairs_of : Binds K fd__law_pairs_of ["_law_counts_here", "_law_copy"] []
  g__law_pairs_of : mg "_law_pairs_of" = some (.ref f__law_pairs_of)
  F_Book_lines_of : Fun K "lines_of" "Book.lines_of" s_Book_lines_of f_Book_lines_of fd_Book_lines_of
  b_Book_lines_of : Binds K fd_Book_lines_of ["self", "copy"] []
  mt_Book_lines_of : Meth K C_Book "lines_of" f_Book_lines_of
  F_Book___isub__ : Fun K "__isub__" "Book.__isub__" s_Book___isub__ f_Book___isub__ fd_Book___isub__
  b_Book___isub__ : Binds K fd_Book___isub__ ["self", "other"] []
  mt_Book___isub__ : Meth K C_Book "__isub__" f_Book___isub__
  F_law : Fun K "law" "law" s_law f_law fd_law
  b_law : Binds K fd_law ["_law_script"] []
  F_BadKey___init__ : Fun K "__init__" "BadKey.__init__" s_BadKey___init__ f_BadKey___init__ fd_BadKey___init__
  b_BadKey___init__ : Binds K fd_BadKey___init__ ["self", "key"] []
  F_BadCount___init__ : Fun K "__init__" "BadCount.__init__" s_BadCount___init__ f_BadCount___init__ fd_BadCount___init__
  b_BadCount___init__ : Binds K fd_BadCount___init__ ["self", "triple"] []
section
variable {P : Program} {w : World} {K : PySem.W.Frag} {mg : Str → Option Value} {base : Heap}
theorem sc_BadKey___init__ : FnScope ["self", "key"] ["self", "key"] (defScope s_BadKey___init__) := ⟨rfl, rfl, rfl, by decide +kernel, rfl, by decide +kernel, by decide +kernel⟩
theorem xok_BadKey (T : Tx P K mg) : FnOk P w K mg base (L2.CX P w) 1 T.f_BadKey___init__ T.fd_BadKey___init__ ["self", "key"] (spXI K ["key"]) := xi1 T.F_BadKey___init__ sc_BadKey___init__ fun cdv A outer s H E hr => pss_one (ps_ost (pv 0) (pv 1) rfl)
theorem sc_BadCount___init__ : FnScope ["self", "triple"] ["self", "triple"] (defScope s_BadCount___init__) := ⟨rfl, rfl, rfl, by decide +kernel, rfl, by decide +kernel, by decide +kernel⟩
theorem xok_BadCount (T : Tx P K mg) : FnOk P w K mg base (L2.CX P w) 1 T.f_BadCount___init__ T.fd_BadCount___init__ ["self", "triple"] (spXI K ["triple"]) := xi1 T.F_BadCount___init__ sc_BadCount___init__ fun cdv A outer s H E hr => pss_one (ps_ost (pv 0) (pv 1) rfl)
theorem sc__law_numbers : FnScope ["_law_cell_here", "_law_salt", "_law_limits", "_law_rest", "_law_found", "_law_limit"] ["_law_cell_here", "_law_salt", "_law_limits"] (defScope s__law_numbers) := ⟨rfl, rfl, rfl, by decide +kernel, rfl, by decide +kernel, by decide +kernel⟩
noncomputable def b__law_numbers : Mo Fl := mSeq (mAsg 3 (mName 0)) (mSeq (mAsg 4 (mLst mNil)) (mSeq (mFor (mIter (mName 2)) (tgN 5) (mIf (mB (mBin fLt (mName 0) (mBin fPow (mC (.int 10)) (mC (.int 18))))) (mSeq (mAsg 3 (mBin fMod (mCB fInt1 (mCons (mBin fAdd (mBin fAdd (mBin fMul (mName 3) (mC (.int 75))) (mC (.int 74))) (mName 1)) mNil)) (mC (.int 65537)))) (mDrop (mMut .lst fAppend (mName 4) (mCons (mBin fMod (mCB fInt1 (mCons (mBin fDiv (mName 3) (mC (.int 7))) mNil)) (mName 5)) mNil)))) (mSeq (mDrop (mMut .lst fAppend (mName 4) (mCons (mBin fMod (mCB fInt1 (mCons (mName 3) mNil)) (mName 5)) mNil))) (mAsg 3 (mBin fDiv (mName 3) (mName 5)))))) (mRet (mName 4))))
noncomputable def m__law_numbers : Fn := fnM 6 b__law_numbers
theorem ok__law_numbers (T : Tx P K mg) : FnM P w K mg base 1 T.f__law_numbers T.fd__law_numbers ["_law_cell_here", "_law_salt", "_law_limits"] m__law_numbers := have sc := sc__law_numbers; defM2 T.F__law_numbers sc rfl fun cdv A outer s H E hr hu tk pa => pess_cons (pes_set 3 sc.nd (pee_name 0)) (pess_cons (pes_set 4 sc.nd (pee_lst pea_nil)) (pess_cons (pes_for pa (pei_seq (pee_name 2)) (peg_name 5 sc.nd) (pess_one (pes_if (pet_cmp om_lt (pee_name 0) (pee_op om_pow pee_int pee_int)) (pess_cons (pes_set 3 sc.nd (pee_op om_mod (pee_ct cm_int T.n_int (pea_cons (pee_op om_add (pee_op om_add (pee_op om_mul (pee_name 3) pee_int) pee_int) (pee_name 1)) pea_nil)) pee_int)) (pess_one (pes_expr (pee_mut (k := .lst) PySem.F.plainAttrs_list PySem.F.slot_list_append PySem.F.type_list_append mt_append mu_append (pee_name 4) (pea_cons (pee_op om_mod (pee_ct cm_int T.n_int (pea_cons (pee_op om_div (pee_name 3) pee_int) pea_nil)) (pee_name 5)) pea_nil))))) (pess_cons (pes_expr (pee_mut (k := .lst) PySem.F.plainAttrs_list PySem.F.slot_list_append PySem.F.type_list_append mt_append mu_append (pee_name 4) (pea_cons (pee_op om_mod (pee_ct cm_int T.n_int (pea_cons (pee_name 3) pea_nil)) (pee_name 5)) pea_nil))) (pess_one (pes_set 3 sc.nd (pee_op om_div (pee_name 3) (pee_name 5)))))))) (pess_one (pes_ret (pee_name 4)))))
theorem sc__law_row : FnScope ["_law_kind", "_law_copy", "_law_many", "_law_number", "_law_mine", "_law_size", "_law_key"] ["_law_kind", "_law_copy", "_law_many", "_law_number"] (defScope s__law_row) := ⟨rfl, rfl, rfl, by decide +kernel, rfl, by decide +kernel, by decide +kernel⟩
noncomputable def b__law_row : Mo Fl := mSeq (mIf (mOr (mB (mBin fEqD (mName 0) (mC (.int 0)))) (mB (mBin fEqD (mName 0) (mC (.int 5))))) (mSeq (mAsg 5 (mIfE (mB (mBin fEqD (mName 0) (mC (.int 0)))) (mC (.int 8)) (mC (.int 3)))) (mRet (mLc [6] (mRng1 (mCons (mName 5) mNil)) (tgN 6) (mB (mBin fEqD (mBin fMod (mCB fInt1 (mCons (mBin fShr (mName 3) (mName 6)) mNil)) (mC (.int 2))) (mC (.int 1)))) (mName 6)))) mNext) (mSeq (mAsg 4 (mLst (mCons (mBin fMod (mCB fInt1 (mCons (mBin fDiv (mName 3) (mC (.int 8))) mNil)) (mC (.int 8))) mNil))) (mSeq (mIf (mB (mBin fEqD (mName 0) (mC (.int 1)))) (mAsg 4 (mLst (mCons (mName 1) (mCons (mBin fAdd (mName 1) (mC (.int 1))) mNil)))) mNext) (mSeq (mIf (mB (mBin fEqD (mName 0) (mC (.int 2)))) (mAsg 4 (mIfE (mB (mBin fEqD (mName 1) (mC (.int 0)))) (mUn fLr1 (mBin fSub (mName 2) (mC (.int 1)))) (mLst (mCons (mBin fSub (mName 1) (mC (.int 1))) mNil)))) mNext) (mSeq (mIf (mB (mBin fEqD (mName 0) (mC (.int 4)))) (mAsg 4 (mLst (mCons (mName 1) (mCons (mBin fMod (mCB fInt1 (mCons (mBin fAdd (mName 1) (mC (.int 1))) mNil)) (mName 2)) mNil)))) mNext) (mSeq (mIf (mOr (mB (mBin fEqD (mName 0) (mC (.int 3)))) (mB (mBin fEqD (mBin fMod (mCB fInt1 (mCons (mBin fDiv (mName 3) (mC (.int 8))) mNil)) (mC (.int 4))) (mC (.int 0))))) (mAsg 4 (mBin fAdd (mName 4) (mLst (mCons (mBin fMod (mCB fInt1 (mCons (mName 3) mNil)) (mC (.int 8))) mNil)))) mNext) (mRet (mLc [6] (mRng1 (mCons (mC (.int 8)) mNil)) (tgN 6) (mB (mBin (fIn false) (mName 6) (mName 4))) (mName 6))))))))
noncomputable def m__law_row : Fn := fnM 7 b__law_row
theorem ok__law_row (T : Tx P K mg) : FnM P w K mg base 1 T.f__law_row T.fd__law_row ["_law_kind", "_law_copy", "_law_many", "_law_number"] m__law_row := have sc := sc__law_row; defM2 T.F__law_row sc rfl fun cdv A outer s H E hr hu tk pa => pess_cons (pes_if ((pew_or (pet_cmp (om_eqD (hu64 hu)) (pee_name 0) pee_int) (pew_or1 (pet_cmp (om_eqD (hu64 hu)) (pee_name 0) pee_int))).pt) (pess_cons (pes_set 5 sc.nd (pee_ife (pet_cmp (om_eqD (hu64 hu)) (pee_name 0) pee_int) pee_int pee_int)) (pess_one (pes_ret (pee_lc sc.nd (own := [("_law_key", 6)]) (l := [6]) (pei_rng1 T.n_range (pea_cons (pee_name 5) pea_nil)) ⟨⟨rfl, by first | decide +kernel | (dsimp only [cxOf, envOfC, compEnvC, relabel]; decide +kernel) | exact of_decide_eq_true (by kernel_rfl), by first | decide +kernel | (dsimp only [cxOf, envOfC, compEnvC, relabel]; decide +kernel) | exact of_decide_eq_true (by kernel_rfl), by first | decide +kernel | (dsimp only [cxOf, envOfC, compEnvC, relabel]; decide +kernel) | exact of_decide_eq_true (by kernel_rfl), by first | decide +kernel | (dsimp only [cxOf, envOfC, compEnvC, relabel]; decide +kernel) | exact of_decide_eq_true (by kernel_rfl)⟩, (tgN_ne _), by decide, fun _ _ _ _ _ => by exact peg_name 6 sc.nd, fun _ _ _ _ _ => by exact pets_one (pet_cmp (om_eqD (hu64 hu)) (pee_op om_mod (pee_ct cm_int T.n_int (pea_cons (pee_op om_shr (pee_name 3) (pee_name 6)) pea_nil)) pee_int) pee_int), fun _ _ _ _ _ => by exact pee_name 6⟩)))) pess_nil) (pess_cons (pes_set 4 sc.nd (pee_lst (pea_cons (pee_op om_mod (pee_ct cm_int T.n_int (pea_cons (pee_op om_div (pee_name 3) pee_int) pea_nil)) pee_int) pea_nil))) (pess_cons (pes_if (pet_cmp (om_eqD (hu64 hu)) (pee_name 0) pee_int) (pess_one (pes_set 4 sc.nd (pee_lst (pea_cons (pee_name 1) (pea_cons (pee_op om_add (pee_name 1) pee_int) pea_nil))))) pess_nil) (pess_cons (pes_if (pet_cmp (om_eqD (hu64 hu)) (pee_name 0) pee_int) (pess_one (pes_set 4 sc.nd (pee_ife (pet_cmp (om_eqD (hu64 hu)) (pee_name 1) pee_int) (pee_lr1 T.n_list T.n_range (pee_op om_sub (pee_name 2) pee_int)) (pee_lst (pea_cons (pee_op om_sub (pee_name 1) pee_int) pea_nil))))) pess_nil) (pess_cons (pes_if (pet_cmp (om_eqD (hu64 hu)) (pee_name 0) pee_int) (pess_one (pes_set 4 sc.nd (pee_lst (pea_cons (pee_name 1) (pea_cons (pee_op om_mod (pee_ct cm_int T.n_int (pea_cons (pee_op om_add (pee_name 1) pee_int) pea_nil)) (pee_name 2)) pea_nil))))) pess_nil) (pess_cons (pes_if ((pew_or (pet_cmp (om_eqD (hu64 hu)) (pee_name 0) pee_int) (pew_or1 (pet_cmp (om_eqD (hu64 hu)) (pee_op om_mod (pee_ct cm_int T.n_int (pea_cons (pee_op om_div (pee_name 3) pee_int) pea_nil)) pee_int) pee_int))).pt) (pess_one (pes_set 4 sc.nd (pee_op om_add (pee_name 4) (pee_lst (pea_cons (pee_op om_mod (pee_ct cm_int T.n_int (pea_cons (pee_name 3) pea_nil)) pee_int) pea_nil))))) pess_nil) (pess_one (pes_ret (pee_lc sc.nd (own := [("_law_key", 6)]) (l := [6]) (pei_rng1 T.n_range (pea_cons pee_int pea_nil)) ⟨⟨rfl, by first | decide +kernel | (dsimp only [cxOf, envOfC, compEnvC, relabel]; decide +kernel) | exact of_decide_eq_true (by kernel_rfl), by first | decide +kernel | (dsimp only [cxOf, envOfC, compEnvC, relabel]; decide +kernel) | exact of_decide_eq_true (by kernel_rfl), by first | decide +kernel | (dsimp only [cxOf, envOfC, compEnvC, relabel]; decide +kernel) | exact of_decide_eq_true (by kernel_rfl), by first | decide +kernel | (dsimp only [cxOf, envOfC, compEnvC, relabel]; decide +kernel) | exact of_decide_eq_true (by kernel_rfl)⟩, (tgN_ne _), by decide, fun _ _ _ _ _ => by exact peg_name 6 sc.nd, fun _ _ _ _ _ => by exact pets_one (pet_cmp (om_in (hu65 hu)) (pee_name 6) (pee_name 4)), fun _ _ _ _ _ => by exact pee_name 6⟩))))))))
theorem sc__law_rows : FnScope ["_law_cell_here", "_law_least", "_law_top", "_law_numbers_here", "_law_many", "_law_copy"] ["_law_cell_here", "_law_least", "_law_top"] (defScope s__law_rows) := ⟨rfl, rfl, rfl, by decide +kernel, rfl, by decide +kernel, by decide +kernel⟩
noncomputable def b__law_rows : Mo Fl := mSeq (mAsg 3 (mCall 3 m__law_numbers (mCons (mName 0) (mCons (mC (.int 1)) (mCons (mBin fAdd (mLst (mCons (mC (.int 6)) (mCons (mBin fSub (mBin fAdd (mC (.int 1)) (mName 2)) (mName 1)) mNil))) (mBin fMul (mLst (mCons (mC (.int 256)) mNil)) (mC (.int 6)))) mNil))))) (mSeq (mAsg 4 (mBin fAdd (mName 1) (mBin fIx (mName 3) (mC (.int 1))))) (mRet (mLc [5] (mRng1 (mCons (mName 4) mNil)) (tgN 5) mYes (mCall 4 m__law_row (mCons (mBin fIx (mName 3) (mC (.int 0))) (mCons (mName 5) (mCons (mName 4) (mCons (mBin fIx (mName 3) (mBin fAdd (mC (.int 2)) (mName 5))) mNil))))))))
noncomputable def m__law_rows : Fn := fnM 6 b__law_rows
theorem ok__law_rows (T : Tx P K mg) : FnM P w K mg base 2 T.f__law_rows T.fd__law_rows ["_law_cell_here", "_law_least", "_law_top"] m__law_rows := have sc := sc__law_rows; defM2 T.F__law_rows sc rfl fun cdv A outer s H E hr hu tk pa => pess_cons (pes_set 3 sc.nd (pee_callN rfl (ok__law_numbers T) (hr.mono (by decide)) T.g__law_numbers T.F__law_numbers.kp T.b__law_numbers tk (pea_cons (pee_name 0) (pea_cons pee_int (pea_cons (pee_op om_add (pee_lst (pea_cons pee_int (pea_cons (pee_op om_sub (pee_op om_add pee_int (pee_name 2)) (pee_name 1)) pea_nil))) (pee_op om_mul (pee_lst (pea_cons pee_int pea_nil)) pee_int)) pea_nil))))) (pess_cons (pes_set 4 sc.nd (pee_op om_add (pee_name 1) (pee_ix (xm_ix (hu1 hu)) (pee_name 3) pee_int))) (pess_one (pes_ret (pee_lc sc.nd (own := [("_law_copy", 5)]) (l := [5]) (pei_rng1 T.n_range (pea_cons (pee_name 4) pea_nil)) ⟨⟨rfl, by first | decide +kernel | (dsimp only [cxOf, envOfC, compEnvC, relabel]; decide +kernel) | exact of_decide_eq_true (by kernel_rfl), by first | decide +kernel | (dsimp only [cxOf, envOfC, compEnvC, relabel]; decide +kernel) | exact of_decide_eq_true (by kernel_rfl), by first | decide +kernel | (dsimp only [cxOf, envOfC, compEnvC, relabel]; decide +kernel) | exact of_decide_eq_true (by kernel_rfl), by first | decide +kernel | (dsimp only [cxOf, envOfC, compEnvC, relabel]; decide +kernel) | exact of_decide_eq_true (by kernel_rfl)⟩, (tgN_ne _), by decide, fun _ _ _ _ _ => by exact peg_name 5 sc.nd, fun _ _ _ _ _ => by exact pets_nil, fun _ _ _ _ _ => by exact pee_callN rfl (ok__law_row T) (hr.mono (by decide)) T.g__law_row T.F__law_row.kp T.b__law_row tk0 (pea_cons (pee_ix (xm_ix (hu1 hu)) (pee_name 3) pee_int) (pea_cons (pee_name 5) (pea_cons (pee_name 4) (pea_cons (pee_ix (xm_ix (hu1 hu)) (pee_name 3) (pee_op om_add pee_int (pee_name 5))) pea_nil))))⟩))))
theorem sc__law_cell : FnScope ["_law_script", "_law_k"] ["_law_script", "_law_k"] (defScope s__law_cell) := ⟨rfl, rfl, rfl, by decide +kernel, rfl, by decide +kernel, by decide +kernel⟩
noncomputable def b__law_cell : Mo Fl := mSeq (mIf (mB (mBin fLt (mName 1) (mCB fLen (mCons (mName 0) mNil)))) (mRet (mBin fIx (mName 0) (mName 1))) mNext) (mRet (mC (.int 0)))
noncomputable def m__law_cell : Fn := fnM 2 b__law_cell
theorem ok__law_cell (T : Tx P K mg) : FnM P w K mg base 1 T.f__law_cell T.fd__law_cell ["_law_script", "_law_k"] m__law_cell := have sc := sc__law_cell; defM2 T.F__law_cell sc rfl fun cdv A outer s H E hr hu tk pa => pess_cons (pes_if (pet_cmp om_lt (pee_name 1) (pee_cb cm_len T.n_len (pea_cons (pee_name 0) pea_nil))) (pess_one (pes_ret (pee_ix (xm_ix (hu1 hu)) (pee_name 0) (pee_name 1)))) pess_nil) (pess_one (pes_ret pee_int))
theorem sc__law_lines : FnScope ["_law_rows_here", "_law_found", "_law_sender", "_law_taker", "_law_key"] ["_law_rows_here"] (defScope s__law_lines) := ⟨rfl, rfl, rfl, by decide +kernel, rfl, by decide +kernel, by decide +kernel⟩
noncomputable def b__law_lines : Mo Fl := mSeq (mAsg 1 (mLst mNil)) (mSeq (mFor (mRng1 (mCons (mCB fLen (mCons (mName 0) mNil)) mNil)) (tgN 2) (mFor (mRng1 (mCons (mCB fLen (mCons (mName 0) mNil)) mNil)) (tgN 3) (mIf (mAnd (mB (mBin fNeD (mName 2) (mName 3))) (mB (mBin fNeD (mLc [4] (mIter (mBin fIx (mName 0) (mName 2))) (tgN 4) (mB (mBin (fIn false) (mName 4) (mBin fIx (mName 0) (mName 3)))) (mName 4)) (mLst mNil)))) (mDrop (mMut .lst fAppend (mName 1) (mCons (mTup (mCons (mName 2) (mCons (mName 3) mNil))) mNil))) mNext))) (mRet (mName 1)))
noncomputable def m__law_lines : Fn := fnM 5 b__law_lines
theorem ok__law_lines (T : Tx P K mg) : FnM P w K mg base 1 T.f__law_lines T.fd__law_lines ["_law_rows_here"] m__law_lines := have sc := sc__law_lines; defM2 T.F__law_lines sc rfl fun cdv A outer s H E hr hu tk pa => pess_cons (pes_set 1 sc.nd (pee_lst pea_nil)) (pess_cons (pes_for pa (pei_rng1 T.n_range (pea_cons (pee_cb cm_len T.n_len (pea_cons (pee_name 0) pea_nil)) pea_nil)) (peg_name 2 sc.nd) (pess_one (pes_for pa (pei_rng1 T.n_range (pea_cons (pee_cb cm_len T.n_len (pea_cons (pee_name 0) pea_nil)) pea_nil)) (peg_name 3 sc.nd) (pess_one (pes_if ((pew_and (pet_cmp (om_neD (hu64 hu)) (pee_name 2) (pee_name 3)) (pew_and1 (pet_cmp (om_neD (hu64 hu)) (pee_lc sc.nd (own := [("_law_key", 4)]) (l := [4]) (pei_seq (pee_ix (xm_ix (hu1 hu)) (pee_name 0) (pee_name 2))) ⟨⟨rfl, by first | decide +kernel | (dsimp only [cxOf, envOfC, compEnvC, relabel]; decide +kernel) | exact of_decide_eq_true (by kernel_rfl), by first | decide +kernel | (dsimp only [cxOf, envOfC, compEnvC, relabel]; decide +kernel) | exact of_decide_eq_true (by kernel_rfl), by first | decide +kernel | (dsimp only [cxOf, envOfC, compEnvC, relabel]; decide +kernel) | exact of_decide_eq_true (by kernel_rfl), by first | decide +kernel | (dsimp only [cxOf, envOfC, compEnvC, relabel]; decide +kernel) | exact of_decide_eq_true (by kernel_rfl)⟩, (tgN_ne _), by decide, fun _ _ _ _ _ => by exact peg_name 4 sc.nd, fun _ _ _ _ _ => by exact pets_one (pet_cmp (om_in (hu65 hu)) (pee_name 4) (pee_ix (xm_ix (hu1 hu)) (pee_name 0) (pee_name 3))), fun _ _ _ _ _ => by exact pee_name 4⟩) (pee_lst pea_nil)))).pt) (pess_one (pes_expr (pee_mut (k := .lst) PySem.F.plainAttrs_list PySem.F.slot_list_append PySem.F.type_list_append mt_append mu_append (pee_name 1) (pea_cons (pee_tup (pea_cons (pee_name 2) (pea_cons (pee_name 3) pea_nil))) pea_nil)))) pess_nil))))) (pess_one (pes_ret (pee_name 1))))
theorem sc__law_triples : FnScope ["_law_many", "_law_found", "_law_copy", "_law_sender", "_law_taker"] ["_law_many"] (defScope s__law_triples) := ⟨rfl, rfl, rfl, by decide +kernel, rfl, by decide +kernel, by decide +kernel⟩
noncomputable def b__law_triples : Mo Fl := mSeq (mAsg 1 (mLst mNil)) (mSeq (mFor (mRng1 (mCons (mName 0) mNil)) (tgN 2) (mFor (mRng1 (mCons (mName 0) mNil)) (tgN 3) (mFor (mRng1 (mCons (mName 0) mNil)) (tgN 4) (mIf (mAnd (mB (mBin fNeD (mName 2) (mName 3))) (mAnd (mB (mBin fNeD (mName 2) (mName 4))) (mB (mBin fNeD (mName 3) (mName 4))))) (mDrop (mMut .lst fAppend (mName 1) (mCons (mTup (mCons (mName 2) (mCons (mName 3) (mCons (mName 4) mNil)))) mNil))) mNext)))) (mRet (mName 1)))
noncomputable def m__law_triples : Fn := fnM 5 b__law_triples
theorem ok__law_triples (T : Tx P K mg) : FnM P w K mg base 1 T.f__law_triples T.fd__law_triples ["_law_many"] m__law_triples := have sc := sc__law_triples; defM2 T.F__law_triples sc rfl fun cdv A outer s H E hr hu tk pa => pess_cons (pes_set 1 sc.nd (pee_lst pea_nil)) (pess_cons (pes_for pa (pei_rng1 T.n_range (pea_cons (pee_name 0) pea_nil)) (peg_name 2 sc.nd) (pess_one (pes_for pa (pei_rng1 T.n_range (pea_cons (pee_name 0) pea_nil)) (peg_name 3 sc.nd) (pess_one (pes_for pa (pei_rng1 T.n_range (pea_cons (pee_name 0) pea_nil)) (peg_name 4 sc.nd) (pess_one (pes_if ((pew_and (pet_cmp (om_neD (hu64 hu)) (pee_name 2) (pee_name 3)) (pew_and (pet_cmp (om_neD (hu64 hu)) (pee_name 2) (pee_name 4)) (pew_and1 (pet_cmp (om_neD (hu64 hu)) (pee_name 3) (pee_name 4))))).pt) (pess_one (pes_expr (pee_mut (k := .lst) PySem.F.plainAttrs_list PySem.F.slot_list_append PySem.F.type_list_append mt_append mu_append (pee_name 1) (pea_cons (pee_tup (pea_cons (pee_name 2) (pea_cons (pee_name 3) (pea_cons (pee_name 4) pea_nil)))) pea_nil)))) pess_nil))))))) (pess_one (pes_ret (pee_name 1))))
theorem sc__law_counts : FnScope ["_law_cell_here", "_law_many", "_law_triples_here", "_law_numbers_here", "_law_found", "_law_k", "_law_out", "_law_kept"] ["_law_cell_here", "_law_many"] (defScope s__law_counts) := ⟨rfl, rfl, rfl, by decide +kernel, rfl, by decide +kernel, by decide +kernel⟩
noncomputable def b__law_counts : Mo Fl := mSeq (mAsg 2 (mCall 1 m__law_triples (mCons (mName 1) mNil))) (mSeq (mAsg 3 (mCall 3 m__law_numbers (mCons (mName 0) (mCons (mC (.int 2)) (mCons (mBin fAdd (mLst (mCons (mC (.int 6)) (mCons (mC (.int 120)) (mCons (mC (.int 120)) mNil)))) (mBin fMul (mLst (mCons (mC (.int 256)) mNil)) (mC (.int 15)))) mNil))))) (mSeq (mAsg 4 (mLst mNil)) (mSeq (mFor (mRng1 (mCons (mCB fLen (mCons (mName 2) mNil)) mNil)) (tgN 5) (mSeq (mAsg 6 (mLst (mCons (mBin fMod (mCB fInt1 (mCons (mBin fIx (mName 3) (mC (.int 1))) mNil)) (mCB fLen (mCons (mName 2) mNil))) (mCons (mBin fMod (mCB fInt1 (mCons (mBin fIx (mName 3) (mC (.int 2))) mNil)) (mCB fLen (mCons (mName 2) mNil))) mNil)))) (mSeq (mAsg 7 (mBin fEqD (mBin fMod (mCB fInt1 (mCons (mBin fShr (mBin fIx (mName 3) (mBin fAdd (mC (.int 3)) (mBin fDiv (mName 5) (mC (.int 8))))) (mBin fMod (mCB fInt1 (mCons (mName 5) mNil)) (mC (.int 8)))) mNil)) (mC (.int 2))) (mC (.int 1)))) (mSeq (mIf (mOr (mB (mBin fEqD (mBin fIx (mName 3) (mC (.int 0))) (mC (.int 1)))) (mB (mBin fEqD (mBin fIx (mName 3) (mC (.int 0))) (mC (.int 2))))) (mAsg 7 (mBin fEqD (mBin fIx (mName 3) (mC (.int 0))) (mC (.int 1)))) mNext) (mSeq (mIf (mB (mBin fEqD (mBin fIx (mName 3) (mC (.int 0))) (mC (.int 3)))) (mAsg 7 (mBin fNeD (mName 5) (mBin fIx (mName 6) (mC (.int 0))))) mNext) (mSeq (mIf (mB (mBin fEqD (mBin fIx (mName 3) (mC (.int 0))) (mC (.int 4)))) (mAsg 7 (mBin (fIn true) (mName 5) (mName 6))) mNext) (mIf (mTru (mName 7)) (mDrop (mMut .lst fAppend (mName 4) (mCons (mBin fIx (mName 2) (mName 5)) mNil))) mNext))))))) (mRet (mName 4)))))
noncomputable def m__law_counts : Fn := fnM 8 b__law_counts
theorem ok__law_counts (T : Tx P K mg) : FnM P w K mg base 2 T.f__law_counts T.fd__law_counts ["_law_cell_here", "_law_many"] m__law_counts := have sc := sc__law_counts; defM2 T.F__law_counts sc rfl fun cdv A outer s H E hr hu tk pa => pess_cons (pes_set 2 sc.nd (pee_callN rfl (ok__law_triples T) (hr.mono (by decide)) T.g__law_triples T.F__law_triples.kp T.b__law_triples tk (pea_cons (pee_name 1) pea_nil))) (pess_cons (pes_set 3 sc.nd (pee_callN rfl (ok__law_numbers T) (hr.mono (by decide)) T.g__law_numbers T.F__law_numbers.kp T.b__law_numbers tk (pea_cons (pee_name 0) (pea_cons pee_int (pea_cons (pee_op om_add (pee_lst (pea_cons pee_int (pea_cons pee_int (pea_cons pee_int pea_nil)))) (pee_op om_mul (pee_lst (pea_cons pee_int pea_nil)) pee_int)) pea_nil))))) (pess_cons (pes_set 4 sc.nd (pee_lst pea_nil)) (pess_cons (pes_for pa (pei_rng1 T.n_range (pea_cons (pee_cb cm_len T.n_len (pea_cons (pee_name 2) pea_nil)) pea_nil)) (peg_name 5 sc.nd) (pess_cons (pes_set 6 sc.nd (pee_lst (pea_cons (pee_op om_mod (pee_ct cm_int T.n_int (pea_cons (pee_ix (xm_ix (hu1 hu)) (pee_name 3) pee_int) pea_nil)) (pee_cb cm_len T.n_len (pea_cons (pee_name 2) pea_nil))) (pea_cons (pee_op om_mod (pee_ct cm_int T.n_int (pea_cons (pee_ix (xm_ix (hu1 hu)) (pee_name 3) pee_int) pea_nil)) (pee_cb cm_len T.n_len (pea_cons (pee_name 2) pea_nil))) pea_nil)))) (pess_cons (pes_set 7 sc.nd (pee_cmp (om_eqD (hu64 hu)) (pee_op om_mod (pee_ct cm_int T.n_int (pea_cons (pee_op om_shr (pee_ix (xm_ix (hu1 hu)) (pee_name 3) (pee_op om_add pee_int (pee_op om_div (pee_name 5) pee_int))) (pee_op om_mod (pee_ct cm_int T.n_int (pea_cons (pee_name 5) pea_nil)) pee_int)) pea_nil)) pee_int) pee_int)) (pess_cons (pes_if ((pew_or (pet_cmp (om_eqD (hu64 hu)) (pee_ix (xm_ix (hu1 hu)) (pee_name 3) pee_int) pee_int) (pew_or1 (pet_cmp (om_eqD (hu64 hu)) (pee_ix (xm_ix (hu1 hu)) (pee_name 3) pee_int) pee_int))).pt) (pess_one (pes_set 7 sc.nd (pee_cmp (om_eqD (hu64 hu)) (pee_ix (xm_ix (hu1 hu)) (pee_name 3) pee_int) pee_int))) pess_nil) (pess_cons (pes_if (pet_cmp (om_eqD (hu64 hu)) (pee_ix (xm_ix (hu1 hu)) (pee_name 3) pee_int) pee_int) (pess_one (pes_set 7 sc.nd (pee_cmp (om_neD (hu64 hu)) (pee_name 5) (pee_ix (xm_ix (hu1 hu)) (pee_name 6) pee_int)))) pess_nil) (pess_cons (pes_if (pet_cmp (om_eqD (hu64 hu)) (pee_ix (xm_ix (hu1 hu)) (pee_name 3) pee_int) pee_int) (pess_one (pes_set 7 sc.nd (pee_cmp (om_notIn (hu65 hu)) (pee_name 5) (pee_name 6)))) pess_nil) (pess_one (pes_if (pet_tru (pee_name 7)) (pess_one (pes_expr (pee_mut (k := .lst) PySem.F.plainAttrs_list PySem.F.slot_list_append PySem.F.type_list_append mt_append mu_append (pee_name 4) (pea_cons (pee_ix (xm_ix (hu1 hu)) (pee_name 2) (pee_name 5)) pea_nil)))) pess_nil)))))))) (pess_one (pes_ret (pee_name 4))))))
theorem sc_Layout___init__ : FnScope ["self", "rows", "kept", "row", "key"] ["self", "rows"] (defScope s_Layout___init__) := ⟨rfl, rfl, rfl, by decide +kernel, rfl, by decide +kernel, by decide +kernel⟩
noncomputable def b_Layout___init__ : Mo Fl := mSeq (mIf (mNot (mB (mChain fLe fLe (mC (.int 1)) (mCB fLen (mCons (mName 1) mNil)) (mC (.int 6))))) (mRaise0 "BadLayout") mNext) (mSeq (mAsg 2 (mLst mNil)) (mSeq (mFor (mIter (mName 1)) (tgN 3) (mSeq (mFor (mIter (mName 3)) (tgN 4) (mIf (mNot (mB (mChain fLe fLt (mC (.int 0)) (mName 4) (mC (.int 8))))) (mRaise "BadKey" ["key"] (mCons (mName 4) mNil)) mNext)) (mDrop (mMut .lst fAppend (mName 2) (mCons (mCB fTuple (mCons (mLc [4] (mRng1 (mCons (mC (.int 8)) mNil)) (tgN 4) (mB (mBin (fIn false) (mName 4) (mName 3))) (mName 4)) mNil)) mNil))))) (mSeq (mSetF fn_rows "rows" (mName 0) (mName 2)) (mSetF fn_masks "masks" (mName 0) (mLc [3] (mIter (mName 2)) (tgN 3) mYes (mCB fSum (mCons (mLc [4] (mIter (mName 3)) (tgN 4) mYes (mBin fShl (mC (.int 1)) (mName 4))) mNil)))))))
noncomputable def m_Layout___init__ : Fn := fnM 5 b_Layout___init__
theorem ok_Layout___init__ (T : Tx P K mg) : FnM P w K mg base 3 T.f_Layout___init__ T.fd_Layout___init__ ["self", "rows"] m_Layout___init__ := have sc := sc_Layout___init__; defM2 T.F_Layout___init__ sc rfl fun cdv A outer s H E hr hu tk pa => pess_cons (pes_if (pet_not (pet_chain om_le om_le pee_int (pee_cb cm_len T.n_len (pea_cons (pee_name 1) pea_nil)) (pee_gint T.v_MOST_COPIES))) (pess_one (pes_raiseT T.c_BadLayout PySem.F.excBase_ValueError T.xi_BadLayout T.kp_BadLayout (raises_own T.xb_BadLayout T.xt_BadLayout) tk)) pess_nil) (pess_cons (pes_set 2 sc.nd (pee_lst pea_nil)) (pess_cons (pes_for pa (pei_seq (pee_name 1)) (peg_name 3 sc.nd) (pess_cons (pes_for pa (pei_seq (pee_name 3)) (peg_name 4 sc.nd) (pess_one (pes_if (pet_not (pet_chain om_le om_lt pee_int (pee_name 4) (pee_gint T.v_MOST_KEYS))) (pess_one (pes_raise (fs := ["key"]) T.c_BadKey T.ox_BadKey T.xn_BadKey (by decide) T.xf1_BadKey T.xf2_BadKey (xok_BadKey T) (hr.mono (by decide)) T.b_BadKey___init__ tk (pea_cons (pee_name 4) pea_nil))) pess_nil))) (pess_one (pes_expr (pee_mut (k := .lst) PySem.F.plainAttrs_list PySem.F.slot_list_append PySem.F.type_list_append mt_append mu_append (pee_name 2) (pea_cons (pee_ct cm_tuple T.n_tuple (pea_cons (pee_lc sc.nd (own := [("key", 4)]) (l := [4]) (pei_rng1 T.n_range (pea_cons (pee_gint T.v_MOST_KEYS) pea_nil)) ⟨⟨rfl, by first | decide +kernel | (dsimp only [cxOf, envOfC, compEnvC, relabel]; decide +kernel) | exact of_decide_eq_true (by kernel_rfl), by first | decide +kernel | (dsimp only [cxOf, envOfC, compEnvC, relabel]; decide +kernel) | exact of_decide_eq_true (by kernel_rfl), by first | decide +kernel | (dsimp only [cxOf, envOfC, compEnvC, relabel]; decide +kernel) | exact of_decide_eq_true (by kernel_rfl), by first | decide +kernel | (dsimp only [cxOf, envOfC, compEnvC, relabel]; decide +kernel) | exact of_decide_eq_true (by kernel_rfl)⟩, (tgN_ne _), by decide, fun _ _ _ _ _ => by exact peg_name 4 sc.nd, fun _ _ _ _ _ => by exact pets_one (pet_cmp (om_in (hu65 hu)) (pee_name 4) (pee_name 3)), fun _ _ _ _ _ => by exact pee_name 4⟩) pea_nil)) pea_nil)))))) (pess_cons (pes_fld T.fd_rows (pee_name 0) (pee_name 2)) (pess_one (pes_fld T.fd_masks (pee_name 0) (pee_lc sc.nd (own := [("row", 3)]) (l := [3]) (pei_seq (pee_name 2)) ⟨⟨rfl, by first | decide +kernel | (dsimp only [cxOf, envOfC, compEnvC, relabel]; decide +kernel) | exact of_decide_eq_true (by kernel_rfl), by first | decide +kernel | (dsimp only [cxOf, envOfC, compEnvC, relabel]; decide +kernel) | exact of_decide_eq_true (by kernel_rfl), by first | decide +kernel | (dsimp only [cxOf, envOfC, compEnvC, relabel]; decide +kernel) | exact of_decide_eq_true (by kernel_rfl), by first | decide +kernel | (dsimp only [cxOf, envOfC, compEnvC, relabel]; decide +kernel) | exact of_decide_eq_true (by kernel_rfl)⟩, (tgN_ne _), by decide, fun _ _ _ _ _ => by exact peg_name 3 sc.nd, fun _ _ _ _ _ => by exact pets_nil, fun _ _ _ _ _ => by exact pee_cb cm_sum T.n_sum (pea_cons (pee_lc sc.nd (own := [("key", 4)]) (l := [4]) (pei_seq (pee_name 3)) ⟨⟨rfl, by first | decide +kernel | (dsimp only [cxOf, envOfC, compEnvC, relabel]; decide +kernel) | exact of_decide_eq_true (by kernel_rfl), by first | decide +kernel | (dsimp only [cxOf, envOfC, compEnvC, relabel]; decide +kernel) | exact of_decide_eq_true (by kernel_rfl), by first | decide +kernel | (dsimp only [cxOf, envOfC, compEnvC, relabel]; decide +kernel) | exact of_decide_eq_true (by kernel_rfl), by first | decide +kernel | (dsimp only [cxOf, envOfC, compEnvC, relabel]; decide +kernel) | exact of_decide_eq_true (by kernel_rfl)⟩, (tgN_ne _), by decide, fun _ _ _ _ _ => by exact peg_name 4 sc.nd, fun _ _ _ _ _ => by exact pets_nil, fun _ _ _ _ _ => by exact pee_op om_shl pee_int (pee_name 4)⟩) pea_nil)⟩))))))
theorem sc_Layout_is_line : FnScope ["self", "sender", "taker", "many"] ["self", "sender", "taker"] (defScope s_Layout_is_line) := ⟨rfl, rfl, rfl, by decide +kernel, rfl, by decide +kernel, by decide +kernel⟩
noncomputable def b_Layout_is_line : Mo Fl := mSeq (mAsg 3 (mCB fLen (mCons (mUn (fFld fn_rows "rows") (mName 0)) mNil))) (mSeq (mIf (mOr (mB (mBin fEqD (mName 1) (mName 2))) (mOr (mNot (mB (mChain fLe fLt (mC (.int 0)) (mName 1) (mName 3)))) (mNot (mB (mChain fLe fLt (mC (.int 0)) (mName 2) (mName 3)))))) (mRet (mC (.bl false))) mNext) (mRet (mBin fNeD (mBin fBAnd (mBin fIx (mUn (fFld fn_masks "masks") (mName 0)) (mName 1)) (mBin fIx (mUn (fFld fn_masks "masks") (mName 0)) (mName 2))) (mC (.int 0)))))
noncomputable def m_Layout_is_line : Fn := fnM 4 b_Layout_is_line
theorem ok_Layout_is_line (T : Tx P K mg) : FnM P w K mg base 1 T.f_Layout_is_line T.fd_Layout_is_line ["self", "sender", "taker"] m_Layout_is_line := have sc := sc_Layout_is_line; defM2 T.F_Layout_is_line sc rfl fun cdv A outer s H E hr hu tk pa => pess_cons (pes_set 3 sc.nd (pee_cb cm_len T.n_len (pea_cons (pee_fld T.fd_rows (pee_name 0)) pea_nil))) (pess_cons (pes_if ((pew_or (pet_cmp (om_eqD (hu64 hu)) (pee_name 1) (pee_name 2)) (pew_or (pet_not (pet_chain om_le om_lt pee_int (pee_name 1) (pee_name 3))) (pew_or1 (pet_not (pet_chain om_le om_lt pee_int (pee_name 2) (pee_name 3)))))).pt) (pess_one (pes_ret pee_bl)) pess_nil) (pess_one (pes_ret (pee_cmp (om_neD (hu64 hu)) (pee_op om_band (pee_ix (xm_ix (hu1 hu)) (pee_fld T.fd_masks (pee_name 0)) (pee_name 1)) (pee_ix (xm_ix (hu1 hu)) (pee_fld T.fd_masks (pee_name 0)) (pee_name 2))) pee_int))))
theorem sc_Layout_lines : FnScope ["self", "copies", "sender", "taker"] ["self"] (defScope s_Layout_lines) := ⟨rfl, rfl, rfl, by decide +kernel, rfl, by decide +kernel, by decide +kernel⟩
noncomputable def b_Layout_lines : Mo Fl := mSeq (mAsg 1 (mUn fLr1 (mCB fLen (mCons (mUn (fFld fn_rows "rows") (mName 0)) mNil)))) (mRet (mLc2 [2, 3] [3] (mIter (mName 1)) (tgN 2) mYes (mIter (mName 1)) (tgN 3) (mB (mMeth "Layout" "is_line" 3 m_Layout_is_line [] (mName 0) (mCons (mName 2) (mCons (mName 3) mNil)))) (mTup (mCons (mName 2) (mCons (mName 3) mNil)))))
noncomputable def m_Layout_lines : Fn := fnM 4 b_Layout_lines
theorem ok_Layout_lines (T : Tx P K mg) : FnM P w K mg base 2 T.f_Layout_lines T.fd_Layout_lines ["self"] m_Layout_lines := have sc := sc_Layout_lines; defM2 T.F_Layout_lines sc rfl fun cdv A outer s H E hr hu tk pa => pess_cons (pes_set 1 sc.nd (pee_lr1 T.n_list T.n_range (pee_cb cm_len T.n_len (pea_cons (pee_fld T.fd_rows (pee_name 0)) pea_nil)))) (pess_one (pes_ret (pee_lc2 sc.nd (own := [("sender", 2), ("taker", 3)]) (l := [2]) (vs1 := [3]) (l1 := [3]) (pei_seq (pee_name 1)) ⟨⟨rfl, by first | decide +kernel | (dsimp only [cxOf, envOfC, compEnvC, relabel]; decide +kernel) | exact of_decide_eq_true (by kernel_rfl), by first | decide +kernel | (dsimp only [cxOf, envOfC, compEnvC, relabel]; decide +kernel) | exact of_decide_eq_true (by kernel_rfl), by first | decide +kernel | (dsimp only [cxOf, envOfC, compEnvC, relabel]; decide +kernel) | exact of_decide_eq_true (by kernel_rfl), by first | decide +kernel | (dsimp only [cxOf, envOfC, compEnvC, relabel]; decide +kernel) | exact of_decide_eq_true (by kernel_rfl)⟩, (tgN_ne _), by decide, (tgN_ne _), by decide, by decide, fun _ _ _ _ _ => by exact peg_name 2 sc.nd, fun _ _ _ _ _ => by exact pets_nil, fun _ _ _ _ _ => by exact pei_seq (pee_name 1), fun _ _ _ _ _ => by exact peg_name 3 sc.nd, fun _ _ _ _ _ => by exact pets_one (pet_val (pee_methN rfl T.c_Layout T.cl_Layout T.mt_Layout_is_line (ok_Layout_is_line T) (hr.mono (by decide)) T.b_Layout_is_line .nil Dfl.nil tk0 (pee_name 0) (pea_cons (pee_name 2) (pea_cons (pee_name 3) pea_nil)))), fun _ _ _ _ _ => by exact pee_tup (pea_cons (pee_name 2) (pea_cons (pee_name 3) pea_nil))⟩)))
theorem sc_Layout___len__ : FnScope ["self"] ["self"] (defScope s_Layout___len__) := ⟨rfl, rfl, rfl, by decide +kernel, rfl, by decide +kernel, by decide +kernel⟩
noncomputable def b_Layout___len__ : Mo Fl := mRet (mCB fLen (mCons (mUn (fFld fn_rows "rows") (mName 0)) mNil))
noncomputable def m_Layout___len__ : Fn := fnM 1 b_Layout___len__
theorem ok_Layout___len__ (T : Tx P K mg) : FnM P w K mg base 1 T.f_Layout___len__ T.fd_Layout___len__ ["self"] m_Layout___len__ := have sc := sc_Layout___len__; defM2 T.F_Layout___len__ sc rfl fun cdv A outer s H E hr hu tk pa => pess_one (pes_ret (pee_cb cm_len T.n_len (pea_cons (pee_fld T.fd_rows (pee_name 0)) pea_nil)))
theorem sc_is_count : FnScope ["triple", "copy", "sender", "taker", "number"] ["triple"] (defScope s_is_count) := ⟨rfl, rfl, rfl, by decide +kernel, rfl, by decide +kernel, by decide +kernel⟩
noncomputable def b_is_count : Mo Fl := mSeq (mIf (mB (mBin fNeD (mCB fLen (mCons (mName 0) mNil)) (mC (.int 3)))) (mRet (mC (.bl false))) mNext) (mSeq (mAsgT (tgT 3 (tgsCons (tgN 1) (tgsCons (tgN 2) (tgsCons (tgN 3) tgsNil)))) (mName 0)) (mSeq (mIf (mOr (mB (mBin fEqD (mName 1) (mName 2))) (mOr (mB (mBin fEqD (mName 1) (mName 3))) (mB (mBin fEqD (mName 2) (mName 3))))) (mRet (mC (.bl false))) mNext) (mRet (mCB fAll (mCons (mLc [4] (mIter (mName 0)) (tgN 4) mYes (mChain fLe fLt (mC (.int 0)) (mName 4) (mC (.int 6)))) mNil)))))
noncomputable def m_is_count : Fn := fnM 5 b_is_count
theorem ok_is_count (T : Tx P K mg) : FnM P w K mg base 1 T.f_is_count T.fd_is_count ["triple"] m_is_count := have sc := sc_is_count; defM2 T.F_is_count sc rfl fun cdv A outer s H E hr hu tk pa => pess_cons (pes_if (pet_cmp (om_neD (hu64 hu)) (pee_cb cm_len T.n_len (pea_cons (pee_name 0) pea_nil)) pee_int) (pess_one (pes_ret pee_bl)) pess_nil) (pess_cons (pes_asg (pee_name 0) (peg_tup (pegs_cons (peg_name 1 sc.nd) (pegs_cons (peg_name 2 sc.nd) (pegs_cons (peg_name 3 sc.nd) pegs_nil))))) (pess_cons (pes_if ((pew_or (pet_cmp (om_eqD (hu64 hu)) (pee_name 1) (pee_name 2)) (pew_or (pet_cmp (om_eqD (hu64 hu)) (pee_name 1) (pee_name 3)) (pew_or1 (pet_cmp (om_eqD (hu64 hu)) (pee_name 2) (pee_name 3))))).pt) (pess_one (pes_ret pee_bl)) pess_nil) (pess_one (pes_ret (pee_cb cm_all T.n_all (pea_cons (pee_lc sc.nd (own := [("number", 4)]) (l := [4]) (pei_seq (pee_name 0)) ⟨⟨rfl, by first | decide +kernel | (dsimp only [cxOf, envOfC, compEnvC, relabel]; decide +kernel) | exact of_decide_eq_true (by kernel_rfl), by first | decide +kernel | (dsimp only [cxOf, envOfC, compEnvC, relabel]; decide +kernel) | exact of_decide_eq_true (by kernel_rfl), by first | decide +kernel | (dsimp only [cxOf, envOfC, compEnvC, relabel]; decide +kernel) | exact of_decide_eq_true (by kernel_rfl), by first | decide +kernel | (dsimp only [cxOf, envOfC, compEnvC, relabel]; decide +kernel) | exact of_decide_eq_true (by kernel_rfl)⟩, (tgN_ne _), by decide, fun _ _ _ _ _ => by exact peg_name 4 sc.nd, fun _ _ _ _ _ => by exact pets_nil, fun _ _ _ _ _ => by exact pee_chain om_le om_lt pee_int (pee_name 4) (pee_gint T.v_MOST_COPIES)⟩) pea_nil))))))
theorem sc_ascending : FnScope ["counts", "given", "copies", "triple", "copy", "sender", "taker"] ["counts"] (defScope s_ascending) := ⟨rfl, rfl, rfl, by decide +kernel, rfl, by decide +kernel, by decide +kernel⟩
noncomputable def b_ascending : Mo Fl := mSeq (mAsg 1 (mDcF [3] [3] (mIter (mName 0)) (tgN 3) mYes (putD (mName 3) (mC (.bl true))))) (mSeq (mAsg 2 (mUn fLr1 (mC (.int 6)))) (mRet (mDcF [4, 5, 6] [4] (mIter (mName 2)) (tgN 4) mYes (clM [5] (mIter (mName 2)) (tgN 5) mYes (clM [6] (mIter (mName 2)) (tgN 6) (mB (mBin (fIn false) (mTup (mCons (mName 4) (mCons (mName 5) (mCons (mName 6) mNil)))) (mName 1))) (putD (mTup (mCons (mName 4) (mCons (mName 5) (mCons (mName 6) mNil)))) (mC (.bl true))))))))
noncomputable def m_ascending : Fn := fnM 7 b_ascending
theorem ok_ascending (T : Tx P K mg) : FnM P w K mg base 1 T.f_ascending T.fd_ascending ["counts"] m_ascending := have sc := sc_ascending; defM2 T.F_ascending sc rfl fun cdv A outer s H E hr hu tk pa => pess_cons (pes_set 1 sc.nd (pee_dc (own := [("triple", 3)]) (l := [3]) (Nat.lt_of_succ_lt (hu1 hu)) sc.nd (pei_seq (pee_name 0)) ⟨⟨rfl, by first | decide +kernel | (dsimp only [cxOf, envOfC, compEnvC, relabel]; decide +kernel) | exact of_decide_eq_true (by kernel_rfl), by first | decide +kernel | (dsimp only [cxOf, envOfC, compEnvC, relabel]; decide +kernel) | exact of_decide_eq_true (by kernel_rfl), by first | decide +kernel | (dsimp only [cxOf, envOfC, compEnvC, relabel]; decide +kernel) | exact of_decide_eq_true (by kernel_rfl), by first | decide +kernel | (dsimp only [cxOf, envOfC, compEnvC, relabel]; decide +kernel) | exact of_decide_eq_true (by kernel_rfl)⟩, (tgN_ne _), by decide, fun _ _ _ _ _ => by exact peg_name 3 sc.nd, fun _ _ _ _ _ => by exact pets_nil, fun _ _ _ _ _ => by exact pee_name 3, fun _ _ _ _ _ => by exact pee_bl⟩)) (pess_cons (pes_set 2 sc.nd (pee_lr1 T.n_list T.n_range (pee_gint T.v_MOST_COPIES))) (pess_one (pes_ret (pee_dc3 (own := [("copy", 4), ("sender", 5), ("taker", 6)]) (v0 := [4]) (v1 := [5]) (v2 := [6]) (l := [4]) (l1 := [5]) (l2 := [6]) (Nat.lt_of_succ_lt (hu1 hu)) sc.nd (pei_seq (pee_name 2)) ⟨⟨rfl, by first | decide +kernel | (dsimp only [cxOf, envOfC, compEnvC, relabel]; decide +kernel) | exact of_decide_eq_true (by kernel_rfl), by first | decide +kernel | (dsimp only [cxOf, envOfC, compEnvC, relabel]; decide +kernel) | exact of_decide_eq_true (by kernel_rfl), by first | decide +kernel | (dsimp only [cxOf, envOfC, compEnvC, relabel]; decide +kernel) | exact of_decide_eq_true (by kernel_rfl), by first | decide +kernel | (dsimp only [cxOf, envOfC, compEnvC, relabel]; decide +kernel) | exact of_decide_eq_true (by kernel_rfl)⟩, (tgN_ne _), (tgN_ne _), (tgN_ne _), by decide, by decide, by decide, by decide, fun _ _ _ _ _ => by exact peg_name 4 sc.nd, fun _ _ _ _ _ => by exact pets_nil, fun _ _ _ _ _ => by exact pei_seq (pee_name 2), fun _ _ _ _ _ => by exact peg_name 5 sc.nd, fun _ _ _ _ _ => by exact pets_nil, fun _ _ _ _ _ => by exact pei_seq (pee_name 2), fun _ _ _ _ _ => by exact peg_name 6 sc.nd, fun _ _ _ _ _ => by exact pets_one (pet_cmp (om_in (hu65 hu)) (pee_tup (pea_cons (pee_name 4) (pea_cons (pee_name 5) (pea_cons (pee_name 6) pea_nil)))) (pee_name 1)), fun _ _ _ _ _ => by exact pee_tup (pea_cons (pee_name 4) (pea_cons (pee_name 5) (pea_cons (pee_name 6) pea_nil))), fun _ _ _ _ _ => by exact pee_bl⟩))))
theorem sc_Book___init__ : FnScope ["self", "counts", "triple"] ["self", "counts"] (defScope s_Book___init__) := ⟨rfl, rfl, rfl, by decide +kernel, rfl, by decide +kernel, by decide +kernel⟩
noncomputable def b_Book___init__ : Mo Fl := mSeq (mFor (mIter (mName 1)) (tgN 2) (mIf (mNot (mB (mCall 1 m_is_count (mCons (mName 2) mNil)))) (mRaise "BadCount" ["triple"] (mCons (mName 2) mNil)) mNext)) (mSetF fn_rows "rows" (mName 0) (mCall 1 m_ascending (mCons (mName 1) mNil)))
noncomputable def m_Book___init__ : Fn := fnM 3 b_Book___init__
theorem ok_Book___init__ (T : Tx P K mg) : FnM P w K mg base 3 T.f_Book___init__ T.fd_Book___init__ ["self", "counts"] m_Book___init__ := have sc := sc_Book___init__; defD2 T.F_Book___init__ sc rfl fun cdv A outer s H E hr hu tk pa => pess_cons (pes_for pa (pei_seq (pee_name 1)) (peg_name 2 sc.nd) (pess_one (pes_if (pet_not (pet_val (pee_callN rfl (ok_is_count T) (hr.mono (by decide)) T.g_is_count T.F_is_count.kp T.b_is_count tk (pea_cons (pee_name 2) pea_nil)))) (pess_one (pes_raise (fs := ["triple"]) T.c_BadCount T.ox_BadCount T.xn_BadCount (by decide) T.xf1_BadCount T.xf2_BadCount (xok_BadCount T) (hr.mono (by decide)) T.b_BadCount___init__ tk (pea_cons (pee_name 2) pea_nil))) pess_nil))) (pess_one (pes_fld T.fd_rows (pee_name 0) (pee_callN rfl (ok_ascending T) (hr.mono (by decide)) T.g_ascending T.F_ascending.kp T.b_ascending tk (pea_cons (pee_name 1) pea_nil))))
theorem sc_Book_full : FnScope ["cls", "layout", "counts", "sender", "taker", "copy"] ["cls", "layout"] (defScope s_Book_full) := ⟨rfl, rfl, rfl, by decide +kernel, rfl, by decide +kernel, by decide +kernel⟩
noncomputable def b_Book_full : Mo Fl := mSeq (mAsg 2 (mLst mNil)) (mSeq (mFor (mIter (mMeth "Layout" "lines" 1 m_Layout_lines [] (mName 1) mNil)) (tgT 2 (tgsCons (tgN 3) (tgsCons (tgN 4) tgsNil))) (mExt 2 (mLc [5] (mRng1 (mCons (mLenO "Layout" m_Layout___len__ (mCons (mName 1) mNil)) mNil)) (tgN 5) (mB (mBin (fIn true) (mName 5) (mTup (mCons (mName 3) (mCons (mName 4) mNil))))) (mTup (mCons (mName 5) (mCons (mName 3) (mCons (mName 4) mNil))))))) (mRet (mMakeX 0 (mMake "Book" 2 m_Book___init__ [] (mCons (mName 2) mNil)))))
noncomputable def m_Book_full : Fn := fnC "Book" 6 b_Book_full
theorem ok_Book_full (T : Tx P K mg) : FnR P w K mg base (L2.CX P w) 5 T.f_Book_full (spC K mg T.C_Book 1 m_Book_full) := have sc := sc_Book_full; defC T.F_Book_full sc T.b_Book_full rfl T.c_Book fun cdv A outer s H E hr hu tk pa => pess_cons (pes_set 2 sc.nd (pee_lst pea_nil)) (pess_cons (pes_for pa (pei_seq (pee_meth0N rfl T.c_Layout T.cl_Layout T.mt_Layout_lines (ok_Layout_lines T) (hr.mono (by decide)) T.b_Layout_lines .nil Dfl.nil tk (pee_name 1))) (peg_tup (pegs_cons (peg_name 3 sc.nd) (pegs_cons (peg_name 4 sc.nd) pegs_nil))) (pess_one (pes_ext 2 sc.nd (pee_lc sc.nd (own := [("copy", 5)]) (l := [5]) (pei_rng1 T.n_range (pea_cons (pee_lenO T.c_Layout (ok_Layout___len__ T) rfl (hr.mono (by decide)) T.b_Layout___len__ tk T.mt_Layout___len__.at_ T.mt_Layout___len__.fn T.n_len (pea_cons (pee_name 1) pea_nil)) pea_nil)) ⟨⟨rfl, by first | decide +kernel | (dsimp only [cxOf, envOfC, compEnvC, relabel]; decide +kernel) | exact of_decide_eq_true (by kernel_rfl), by first | decide +kernel | (dsimp only [cxOf, envOfC, compEnvC, relabel]; decide +kernel) | exact of_decide_eq_true (by kernel_rfl), by first | decide +kernel | (dsimp only [cxOf, envOfC, compEnvC, relabel]; decide +kernel) | exact of_decide_eq_true (by kernel_rfl), by first | decide +kernel | (dsimp only [cxOf, envOfC, compEnvC, relabel]; decide +kernel) | exact of_decide_eq_true (by kernel_rfl)⟩, (tgN_ne _), by decide, fun _ _ _ _ _ => by exact peg_name 5 sc.nd, fun _ _ _ _ _ => by exact pets_one (pet_cmp (om_notIn (hu65 hu)) (pee_name 5) (pee_tup (pea_cons (pee_name 3) (pea_cons (pee_name 4) pea_nil)))), fun _ _ _ _ _ => by exact pee_tup (pea_cons (pee_name 5) (pea_cons (pee_name 3) (pea_cons (pee_name 4) pea_nil)))⟩)))) (pess_one (pes_ret (pee_makeX 0 rfl T.c_Book ⟨T.mk_Book, T.mt_Book___init__.at_, T.mt_Book___init__.fn, T.kp_Book⟩ (ok_Book___init__ T) (hr.mono (by decide)) T.b_Book___init__ tk (pea_cons (pee_name 2) pea_nil)))))
theorem sc__law_is_int : FnScope ["_law_given"] ["_law_given"] (defScope s__law_is_int) := ⟨rfl, rfl, rfl, by decide +kernel, rfl, by decide +kernel, by decide +kernel⟩
noncomputable def b__law_is_int : Mo Fl := mRet (mAndV (mIs ti_int (mName 0)) (mNotV (mIs ti_bool (mName 0))))
noncomputable def m__law_is_int : Fn := fnM 1 b__law_is_int
theorem ok__law_is_int (T : Tx P K mg) : FnM P w K mg base 1 T.f__law_is_int T.fd__law_is_int ["_law_given"] m__law_is_int := have sc := sc__law_is_int; defM2 T.F__law_is_int sc rfl fun cdv A outer s H E hr hu tk pa => pess_one (pes_ret (pee_and (pee_is T.ist_int (ClsV.ty _) (fun _ => by exact pe_bltn rfl T.n_int (by decide +kernel) rfl) T.n_isinstance (pee_name 0)) (pee_one (pee_not (pee_is T.ist_bool (ClsV.ty _) (fun _ => by exact pe_bltn rfl T.n_bool (by decide +kernel) rfl) T.n_isinstance (pee_name 0))))))
theorem sc_Book___len__ : FnScope ["self"] ["self"] (defScope s_Book___len__) := ⟨rfl, rfl, rfl, by decide +kernel, rfl, by decide +kernel, by decide +kernel⟩
noncomputable def b_Book___len__ : Mo Fl := mRet (mCB fLenD (mCons (mUn (fFld fn_rows "rows") (mName 0)) mNil))
noncomputable def m_Book___len__ : Fn := fnM 1 b_Book___len__
theorem ok_Book___len__ (T : Tx P K mg) : FnM P w K mg base 1 T.f_Book___len__ T.fd_Book___len__ ["self"] m_Book___len__ := have sc := sc_Book___len__; defM2 T.F_Book___len__ sc rfl fun cdv A outer s H E hr hu tk pa => pess_one (pes_ret (pee_cb cm_lenD T.n_len (pea_cons (pee_fld T.fd_rows (pee_name 0)) pea_nil)))
theorem sc__law_same_rows : FnScope ["_law_told", "_law_due", "_law_k", "_law_part"] ["_law_told", "_law_due"] (defScope s__law_same_rows) := ⟨rfl, rfl, rfl, by decide +kernel, rfl, by decide +kernel, by decide +kernel⟩
noncomputable def b__law_same_rows : Mo Fl := mSeq (mIf (mOr (mNot (mB (mIs ti_list (mName 0)))) (mB (mBin fNeD (mCB fLen (mCons (mName 0) mNil)) (mCB fLen (mCons (mName 1) mNil))))) (mRet (mC (.bl false))) mNext) (mSeq (mFor (mRng1 (mCons (mCB fLen (mCons (mName 1) mNil)) mNil)) (tgN 2) (mSeq (mIf (mOr (mNot (mB (mIs ti_tuple (mBin fIx (mName 0) (mName 2))))) (mB (mBin fNeD (mBin fIx (mName 0) (mName 2)) (mBin fIx (mName 1) (mName 2))))) (mRet (mC (.bl false))) mNext) (mIf (mNot (mB (mCB fAll (mCons (mLc [3] (mIter (mBin fIx (mName 0) (mName 2))) (tgN 3) mYes (mCall 1 m__law_is_int (mCons (mName 3) mNil))) mNil)))) (mRet (mC (.bl false))) mNext))) (mRet (mC (.bl true))))
noncomputable def m__law_same_rows : Fn := fnM 4 b__law_same_rows
theorem ok__law_same_rows (T : Tx P K mg) : FnM P w K mg base 2 T.f__law_same_rows T.fd__law_same_rows ["_law_told", "_law_due"] m__law_same_rows := have sc := sc__law_same_rows; defM2 T.F__law_same_rows sc rfl fun cdv A outer s H E hr hu tk pa => pess_cons (pes_if ((pew_or (pet_not (pet_val (pee_is T.ist_list (ClsV.ty _) (fun _ => by exact pe_bltn rfl T.n_list (by decide +kernel) rfl) T.n_isinstance (pee_name 0)))) (pew_or1 (pet_cmp (om_neD (hu64 hu)) (pee_cb cm_len T.n_len (pea_cons (pee_name 0) pea_nil)) (pee_cb cm_len T.n_len (pea_cons (pee_name 1) pea_nil))))).pt) (pess_one (pes_ret pee_bl)) pess_nil) (pess_cons (pes_for pa (pei_rng1 T.n_range (pea_cons (pee_cb cm_len T.n_len (pea_cons (pee_name 1) pea_nil)) pea_nil)) (peg_name 2 sc.nd) (pess_cons (pes_if ((pew_or (pet_not (pet_val (pee_is T.ist_tuple (ClsV.ty _) (fun _ => by exact pe_bltn rfl T.n_tuple (by decide +kernel) rfl) T.n_isinstance (pee_ix (xm_ix (hu1 hu)) (pee_name 0) (pee_name 2))))) (pew_or1 (pet_cmp (om_neD (hu64 hu)) (pee_ix (xm_ix (hu1 hu)) (pee_name 0) (pee_name 2)) (pee_ix (xm_ix (hu1 hu)) (pee_name 1) (pee_name 2))))).pt) (pess_one (pes_ret pee_bl)) pess_nil) (pess_one (pes_if (pet_not (pet_val (pee_cb cm_all T.n_all (pea_cons (pee_lc sc.nd (own := [("_law_part", 3)]) (l := [3]) (pei_seq (pee_ix (xm_ix (hu1 hu)) (pee_name 0) (pee_name 2))) ⟨⟨rfl, by first | decide +kernel | (dsimp only [cxOf, envOfC, compEnvC, relabel]; decide +kernel) | exact of_decide_eq_true (by kernel_rfl), by first | decide +kernel | (dsimp only [cxOf, envOfC, compEnvC, relabel]; decide +kernel) | exact of_decide_eq_true (by kernel_rfl), by first | decide +kernel | (dsimp only [cxOf, envOfC, compEnvC, relabel]; decide +kernel) | exact of_decide_eq_true (by kernel_rfl), by first | decide +kernel | (dsimp only [cxOf, envOfC, compEnvC, relabel]; decide +kernel) | exact of_decide_eq_true (by kernel_rfl)⟩, (tgN_ne _), by decide, fun _ _ _ _ _ => by exact peg_name 3 sc.nd, fun _ _ _ _ _ => by exact pets_nil, fun _ _ _ _ _ => by exact pee_callN rfl (ok__law_is_int T) (hr.mono (by decide)) T.g__law_is_int T.F__law_is_int.kp T.b__law_is_int tk0 (pea_cons (pee_name 3) pea_nil)⟩) pea_nil)))) (pess_one (pes_ret pee_bl)) pess_nil)))) (pess_one (pes_ret pee_bl)))
theorem sc_Book___iter__ : FnScope ["self"] ["self"] (defScope s_Book___iter__) := ⟨rfl, rfl, rfl, by decide +kernel, rfl, by decide +kernel, by decide +kernel⟩
theorem ok_Book___iter__ (T : Tx P K mg) : FnOk P w K mg base (L2.CX P w) 1 T.f_Book___iter__ T.fd_Book___iter__ ["self"] (spIt T.C_Book "rows" (mkD)) := defItD T.F_Book___iter__ sc_Book___iter__ rfl T.cl_Book T.nI_Book T.n_iter rfl (fun _ _ => rfl) (fun _ => rfl) (fun _ => rfl)
theorem sc__law_same_book : FnScope ["_law_book", "_law_due"] ["_law_book", "_law_due"] (defScope s__law_same_book) := ⟨rfl, rfl, rfl, by decide +kernel, rfl, by decide +kernel, by decide +kernel⟩
noncomputable def b__law_same_book : Mo Fl := mSeq (mIf (mOr (mNot (mB (mCall 1 m__law_is_int (mCons (mLenO "Book" m_Book___len__ (mCons (mName 0) mNil)) mNil)))) (mB (mBin fNeD (mLenO "Book" m_Book___len__ (mCons (mName 0) mNil)) (mCB fLen (mCons (mName 1) mNil))))) (mRet (mC (.bl false))) mNext) (mRet (mCall 2 m__law_same_rows (mCons (mListD "Book" "rows" m_Book___len__ (mCons (mName 0) mNil)) (mCons (mName 1) mNil))))
noncomputable def m__law_same_book : Fn := fnM 2 b__law_same_book
theorem ok__law_same_book (T : Tx P K mg) : FnM P w K mg base 5 T.f__law_same_book T.fd__law_same_book ["_law_book", "_law_due"] m__law_same_book := have sc := sc__law_same_book; defH2 T.F__law_same_book sc rfl fun cdv A outer s H E hk hr hu tk pa => pess_cons (pes_if ((pew_or (pet_not (pet_val (pee_callN rfl (ok__law_is_int T) (hr.mono (by decide)) T.g__law_is_int T.F__law_is_int.kp T.b__law_is_int tk (pea_cons (pee_lenO T.c_Book (ok_Book___len__ T) rfl (hr.mono (by decide)) T.b_Book___len__ tk T.mt_Book___len__.at_ T.mt_Book___len__.fn T.n_len (pea_cons (pee_name 0) pea_nil)) pea_nil)))) (pew_or1 (pet_cmp (om_neD (hu64 hu)) (pee_lenO T.c_Book (ok_Book___len__ T) rfl (hr.mono (by decide)) T.b_Book___len__ tk T.mt_Book___len__.at_ T.mt_Book___len__.fn T.n_len (pea_cons (pee_name 0) pea_nil)) (pee_cb cm_len T.n_len (pea_cons (pee_name 1) pea_nil))))).pt) (pess_one (pes_ret pee_bl)) pess_nil) (pess_one (pes_ret (pee_callN rfl (ok__law_same_rows T) (hr.mono (by decide)) T.g__law_same_rows T.F__law_same_rows.kp T.b__law_same_rows tk (pea_cons (pee_listD (n := 1) hk T.c_Book ⟨T.mt_Book___iter__.at_, T.mt_Book___iter__.fn, T.mt_Book___len__.at_, T.mt_Book___len__.fn⟩ ((ok_Book___iter__ T).mono (by decide)) T.b_Book___iter__ ((ok_Book___len__ T).mono (by decide)) rfl T.b_Book___len__ (hr.mono (by decide)) T.n_list (pea_cons (pee_name 0) pea_nil)) (pea_cons (pee_name 1) pea_nil)))))
theorem sc_Layout___iter__ : FnScope ["self"] ["self"] (defScope s_Layout___iter__) := ⟨rfl, rfl, rfl, by decide +kernel, rfl, by decide +kernel, by decide +kernel⟩
theorem ok_Layout___iter__ (T : Tx P K mg) : FnOk P w K mg base (L2.CX P w) 1 T.f_Layout___iter__ T.fd_Layout___iter__ ["self"] (spIt T.C_Layout "rows" (fun u S => ∃ l zs, u = .ref l ∧ S = srcL K l zs)) := defIt T.F_Layout___iter__ sc_Layout___iter__ rfl T.cl_Layout T.nI_Layout T.n_iter rfl (fun _ _ => rfl) (fun _ => rfl) (fun _ => rfl)
theorem sc_joined : FnScope ["books", "counts", "book"] ["books"] (defScope s_joined) := ⟨rfl, rfl, rfl, by decide +kernel, rfl, by decide +kernel, by decide +kernel⟩
noncomputable def b_joined : Mo Fl := mSeq (mAsg 1 (mLst mNil)) (mSeq (mFor (mIter (mName 0)) (tgN 2) (mExt 1 (mListK (mCons (mUn (fFld fn_rows "rows") (mName 2)) mNil)))) (mRet (mMake "Book" 2 m_Book___init__ [] (mCons (mName 1) mNil))))
noncomputable def m_joined : Fn := fnM 3 b_joined
theorem ok_joined (T : Tx P K mg) : FnR P w K mg base (L2.CX P w) 5 T.f_joined (spV K mg m_joined) := have sc := sc_joined; defV T.F_joined sc rfl (fun _ _ _ _ _ _ rest => match rest with | [] => rfl | _ :: _ => rfl) fun cdv A outer s H E hr hu tk pa => pess_cons (pes_set 1 sc.nd (pee_lst pea_nil)) (pess_cons (pes_for pa (pei_seq (pee_name 0)) (peg_name 2 sc.nd) (pess_one (pes_ext 1 sc.nd (pee_listK T.n_list (pea_cons (pee_fld T.fd_rows (pee_name 2)) pea_nil))))) (pess_one (pes_ret (pee_makeN rfl T.c_Book ⟨T.mk_Book, T.mt_Book___init__.at_, T.mt_Book___init__.fn, T.kp_Book⟩ (ok_Book___init__ T) (hr.mono (by decide)) T.b_Book___init__ .nil Dfl.nil tk (pea_cons (pee_name 1) pea_nil)))))
theorem sc_Book___ior__ : FnScope ["self", "other"] ["self", "other"] (defScope s_Book___ior__) := ⟨rfl, rfl, rfl, by decide +kernel, rfl, by decide +kernel, by decide +kernel⟩
noncomputable def b_Book___ior__ : Mo Fl := mSeq (mIf (mNot (mB (mIs ti_Book (mName 1)))) stk mNext) (mSeq (mSetF fn_rows "rows" (mName 0) (mCall 1 m_ascending (mCons (mBin fAdd (mListK (mCons (mUn (fFld fn_rows "rows") (mName 0)) mNil)) (mListK (mCons (mUn (fFld fn_rows "rows") (mName 1)) mNil))) mNil))) (mRet (mName 0)))
noncomputable def m_Book___ior__ : Fn := fnM 2 b_Book___ior__
theorem ok_Book___ior__ (T : Tx P K mg) : FnM P w K mg base 2 T.f_Book___ior__ T.fd_Book___ior__ ["self", "other"] m_Book___ior__ := have sc := sc_Book___ior__; defM2 T.F_Book___ior__ sc rfl fun cdv A outer s H E hr hu tk pa => pess_cons (pes_if (pet_not (pet_val (pee_is T.ist_Book (ClsV.own _) (fun _ => by exact pe_glob rfl T.c_Book rfl) T.n_isinstance (pee_name 1)))) (pess_one pes_dead) pess_nil) (pess_cons (pes_fld T.fd_rows (pee_name 0) (pee_callN rfl (ok_ascending T) (hr.mono (by decide)) T.g_ascending T.F_ascending.kp T.b_ascending tk (pea_cons (pee_op om_add (pee_listK T.n_list (pea_cons (pee_fld T.fd_rows (pee_name 0)) pea_nil)) (pee_listK T.n_list (pea_cons (pee_fld T.fd_rows (pee_name 1)) pea_nil))) pea_nil))) (pess_one (pes_ret (pee_name 0))))
theorem sc__law_pairs_of : FnScope ["_law_counts_here", "_law_copy", "_law_triple"] ["_law_counts_here", "_law_copy"] (defScope s__law_pairs_of) := ⟨rfl, rfl, rfl, by decide +kernel, rfl, by decide +kernel, by decide +kernel⟩
noncomputable def b__law_pairs_of : Mo Fl := mRet (mLc [2] (mIter (mName 0)) (tgN 2) (mB (mBin fEqD (mBin fIx (mName 2) (mC (.int 0))) (mName 1))) (mTup (mCons (mBin fIx (mName 2) (mC (.int 1))) (mCons (mBin fIx (mName 2) (mC (.int 2))) mNil))))
noncomputable def m__law_pairs_of : Fn := fnM 3 b__law_pairs_of
theorem ok__law_pairs_of (T : Tx P K mg) : FnM P w K mg base 1 T.f__law_pairs_of T.fd__law_pairs_of ["_law_counts_here", "_law_copy"] m__law_pairs_of := have sc := sc__law_pairs_of; defM2 T.F__law_pairs_of sc rfl fun cdv A outer s H E hr hu tk pa => pess_one (pes_ret (pee_lc sc.nd (own := [("_law_triple", 2)]) (l := [2]) (pei_seq (pee_name 0)) ⟨⟨rfl, by first | decide +kernel | (dsimp only [cxOf, envOfC, compEnvC, relabel]; decide +kernel) | exact of_decide_eq_true (by kernel_rfl), by first | decide +kernel | (dsimp only [cxOf, envOfC, compEnvC, relabel]; decide +kernel) | exact of_decide_eq_true (by kernel_rfl), by first | decide +kernel | (dsimp only [cxOf, envOfC, compEnvC, relabel]; decide +kernel) | exact of_decide_eq_true (by kernel_rfl), by first | decide +kernel | (dsimp only [cxOf, envOfC, compEnvC, relabel]; decide +kernel) | exact of_decide_eq_true (by kernel_rfl)⟩, (tgN_ne _), by decide, fun _ _ _ _ _ => by exact peg_name 2 sc.nd, fun _ _ _ _ _ => by exact pets_one (pet_cmp (om_eqD (hu64 hu)) (pee_ix (xm_ix (hu1 hu)) (pee_name 2) pee_int) (pee_name 1)), fun _ _ _ _ _ => by exact pee_tup (pea_cons (pee_ix (xm_ix (hu1 hu)) (pee_name 2) pee_int) (pea_cons (pee_ix (xm_ix (hu1 hu)) (pee_name 2) pee_int) pea_nil))⟩))
theorem sc_Book_lines_of : FnScope ["self", "copy", "counter", "sender", "taker"] ["self", "copy"] (defScope s_Book_lines_of) := ⟨rfl, rfl, rfl, by decide +kernel, rfl, by decide +kernel, by decide +kernel⟩
noncomputable def b_Book_lines_of : Mo Fl := mRet (mLc [2, 3, 4] (mIterD (mUn (fFld fn_rows "rows") (mName 0))) (tgT 3 (tgsCons (tgN 2) (tgsCons (tgN 3) (tgsCons (tgN 4) tgsNil)))) (mB (mBin fEqD (mName 2) (mName 1))) (mTup (mCons (mName 3) (mCons (mName 4) mNil))))
noncomputable def m_Book_lines_of : Fn := fnM 5 b_Book_lines_of
theorem ok_Book_lines_of (T : Tx P K mg) : FnM P w K mg base 1 T.f_Book_lines_of T.fd_Book_lines_of ["self", "copy"] m_Book_lines_of := have sc := sc_Book_lines_of; defM2 T.F_Book_lines_of sc rfl fun cdv A outer s H E hr hu tk pa => pess_one (pes_ret (pee_lc sc.nd (own := [("counter", 2), ("sender", 3), ("taker", 4)]) (l := [2, 3, 4]) (pei_dict (pee_fld T.fd_rows (pee_name 0))) ⟨⟨rfl, by first | decide +kernel | (dsimp only [cxOf, envOfC, compEnvC, relabel]; decide +kernel) | exact of_decide_eq_true (by kernel_rfl), by first | decide +kernel | (dsimp only [cxOf, envOfC, compEnvC, relabel]; decide +kernel) | exact of_decide_eq_true (by kernel_rfl), by first | decide +kernel | (dsimp only [cxOf, envOfC, compEnvC, relabel]; decide +kernel) | exact of_decide_eq_true (by kernel_rfl), by first | decide +kernel | (dsimp only [cxOf, envOfC, compEnvC, relabel]; decide +kernel) | exact of_decide_eq_true (by kernel_rfl)⟩, (tgT_ne (tgsCons_ne (tgN_ne _) (tgsCons_ne (tgN_ne _) (tgsCons_ne (tgN_ne _) tgsNil_ne)))), by decide, fun _ _ _ _ _ => by exact peg_tup (pegs_cons (peg_name 2 sc.nd) (pegs_cons (peg_name 3 sc.nd) (pegs_cons (peg_name 4 sc.nd) pegs_nil))), fun _ _ _ _ _ => by exact pets_one (pet_cmp (om_eqD (hu64 hu)) (pee_name 2) (pee_name 1)), fun _ _ _ _ _ => by exact pee_tup (pea_cons (pee_name 3) (pea_cons (pee_name 4) pea_nil))⟩))
theorem sc_Book___isub__ : FnScope ["self", "other", "triple"] ["self", "other"] (defScope s_Book___isub__) := ⟨rfl, rfl, rfl, by decide +kernel, rfl, by decide +kernel, by decide +kernel⟩
noncomputable def b_Book___isub__ : Mo Fl := mSeq (mIf (mNot (mB (mIs ti_Book (mName 1)))) stk mNext) (mSeq (mSetF fn_rows "rows" (mName 0) (mDcF [2] [2] (mIterD (mUn (fFld fn_rows "rows") (mName 0))) (tgN 2) (mB (mBin (fIn true) (mName 2) (mUn (fFld fn_rows "rows") (mName 1)))) (putD (mName 2) (mC (.bl true))))) (mRet (mName 0)))
noncomputable def m_Book___isub__ : Fn := fnM 3 b_Book___isub__
theorem ok_Book___isub__ (T : Tx P K mg) : FnM P w K mg base 1 T.f_Book___isub__ T.fd_Book___isub__ ["self", "other"] m_Book___isub__ := have sc := sc_Book___isub__; defM2 T.F_Book___isub__ sc rfl fun cdv A outer s H E hr hu tk pa => pess_cons (pes_if (pet_not (pet_val (pee_is T.ist_Book (ClsV.own _) (fun _ => by exact pe_glob rfl T.c_Book rfl) T.n_isinstance (pee_name 1)))) (pess_one pes_dead) pess_nil) (pess_cons (pes_fld T.fd_rows (pee_name 0) (pee_dc (own := [("triple", 2)]) (l := [2]) (Nat.lt_of_succ_lt (hu1 hu)) sc.nd (pei_dict (pee_fld T.fd_rows (pee_name 0))) ⟨⟨rfl, by first | decide +kernel | (dsimp only [cxOf, envOfC, compEnvC, relabel]; decide +kernel) | exact of_decide_eq_true (by kernel_rfl), by first | decide +kernel | (dsimp only [cxOf, envOfC, compEnvC, relabel]; decide +kernel) | exact of_decide_eq_true (by kernel_rfl), by first | decide +kernel | (dsimp only [cxOf, envOfC, compEnvC, relabel]; decide +kernel) | exact of_decide_eq_true (by kernel_rfl), by first | decide +kernel | (dsimp only [cxOf, envOfC, compEnvC, relabel]; decide +kernel) | exact of_decide_eq_true (by kernel_rfl)⟩, (tgN_ne _), by decide, fun _ _ _ _ _ => by exact peg_name 2 sc.nd, fun _ _ _ _ _ => by exact pets_one (pet_cmp (om_notIn (hu65 hu)) (pee_name 2) (pee_fld T.fd_rows (pee_name 1))), fun _ _ _ _ _ => by exact pee_name 2, fun _ _ _ _ _ => by exact pee_bl⟩)) (pess_one (pes_ret (pee_name 0))))
theorem sc_law : FnScope ["_law_script", "_law_rows_here", "_law_lines_here", "_law_full", "_law_first", "_law_second", "_law_far", "_law_layout", "_law_whole", "_law_one", "_law_two", "_law_every", "_law_both", "_law_three", "_law_alone", "_law_copy", "_law_rest", "_law_told", "_law_triple", "_law_row_here"] ["_law_script"] (defScope s_law) := ⟨rfl, rfl, rfl, by decide +kernel, rfl, by decide +kernel, by decide +kernel⟩
noncomputable def b_law : Mo Fl := mSeq (mAsg 1 (mCall 3 m__law_rows (mCons (mCall 2 m__law_cell (mCons (mName 0) (mCons (mC (.int 0)) mNil))) (mCons (mC (.int 1)) (mCons (mC (.int 6)) mNil))))) (mSeq (mAsg 2 (mCall 1 m__law_lines (mCons (mName 1) mNil))) (mSeq (mAsg 3 (mLc [18] (mIter (mCall 1 m__law_triples (mCons (mCB fLen (mCons (mName 1) mNil)) mNil))) (tgN 18) (mB (mBin (fIn false) (mTup (mCons (mBin fIx (mName 18) (mC (.int 1))) (mCons (mBin fIx (mName 18) (mC (.int 2))) mNil))) (mName 2))) (mName 18))) (mSeq (mAsg 4 (mCall 2 m__law_counts (mCons (mCall 2 m__law_cell (mCons (mName 0) (mCons (mC (.int 1)) mNil))) (mCons (mC (.int 6)) mNil)))) (mSeq (mAsg 5 (mCall 2 m__law_counts (mCons (mCall 2 m__law_cell (mCons (mName 0) (mCons (mC (.int 2)) mNil))) (mCons (mC (.int 6)) mNil)))) (mSeq (mAsg 6 (mBin fAdd (mC (.int 6)) (mBin fIx (mCall 3 m__law_numbers (mCons (mCall 2 m__law_cell (mCons (mName 0) (mCons (mC (.int 3)) mNil))) (mCons (mC (.int 4)) (mCons (mLst (mCons (mBin fPow (mC (.int 10)) (mC (.int 9))) mNil)) mNil)))) (mC (.int 0))))) (mSeq (mAsg 7 (mMake "Layout" 2 m_Layout___init__ [] (mCons (mLc [19] (mIter (mName 1)) (tgN 19) mYes (mCB fList (mCons (mName 19) mNil))) mNil))) (mSeq (mAsg 8 (mCell (mCallW 1 m_Book_full (mCons (mName 7) mNil)))) (mSeq (mIf (mOr (mNot (mB (mCall 2 m__law_same_book (mCons (mName 8) (mCons (mName 3) mNil))))) (mNot (mB (mCall 2 m__law_same_rows (mCons (mListO "Layout" "rows" m_Layout___len__ (mCons (mName 7) mNil)) (mCons (mLc [19] (mIter (mName 1)) (tgN 19) mYes (mCB fTuple (mCons (mName 19) mNil))) mNil)))))) (mRet (mC (.bl false))) mNext) (mSeq (mAsg 9 (mMake "Book" 2 m_Book___init__ [] (mCons (mCB fList (mCons (mName 4) mNil)) mNil))) (mSeq (mAsg 10 (mMake "Book" 2 m_Book___init__ [] (mCons (mCB fList (mCons (mName 5) mNil)) mNil))) (mSeq (mAsg 11 (mCall 1 m__law_triples (mCons (mC (.int 6)) mNil))) (mSeq (mAsg 12 (mLc [18] (mIter (mName 11)) (tgN 18) (mOr (mB (mBin (fIn false) (mName 18) (mName 4))) (mB (mBin (fIn false) (mName 18) (mName 5)))) (mName 18))) (mSeq (mAsg 13 (mLc [18] (mIter (mName 11)) (tgN 18) (mOr (mB (mBin (fIn false) (mName 18) (mName 12))) (mB (mBin (fIn false) (mName 18) (mName 3)))) (mName 18))) (mSeq (mIf (mOr (mNot (mB (mCall 2 m__law_same_book (mCons (mCallV m_joined mNil) (mCons (mLst mNil) mNil))))) (mNot (mB (mCall 2 m__law_same_book (mCons (mCell (mCallV m_joined (mCons (mName 9) mNil))) (mCons (mName 4) mNil)))))) (mRet (mC (.bl false))) mNext) (mSeq (mIf (mOr (mNot (mB (mCall 2 m__law_same_book (mCons (mCallV m_joined (mCons (mName 9) (mCons (mName 10) mNil))) (mCons (mName 12) mNil))))) (mNot (mB (mCall 2 m__law_same_book (mCons (mCallV m_joined (mCons (mName 10) (mCons (mName 9) (mCons (mName 8) mNil)))) (mCons (mName 13) mNil)))))) (mRet (mC (.bl false))) mNext) (mSeq (mAsg 14 (mCell (mCallV m_joined (mCons (mName 9) mNil)))) (mSeq (mAugO 14 "Book" m_Book___ior__ (mName 10)) (mSeq (mIf (mOr (mNot (mB (mCall 2 m__law_same_book (mCons (mName 14) (mCons (mName 12) mNil))))) (mOr (mNot (mB (mCall 2 m__law_same_book (mCons (mName 9) (mCons (mName 4) mNil))))) (mNot (mB (mCall 2 m__law_same_book (mCons (mName 10) (mCons (mName 5) mNil))))))) (mRet (mC (.bl false))) mNext) (mSeq (mFor (mIter (mLst (mCons (mUn fNeg (mC (.int 1))) (mCons (mName 6) (mCons (mC (.int 0)) (mCons (mC (.int 1)) (mCons (mC (.int 2)) (mCons (mC (.int 3)) (mCons (mC (.int 4)) (mCons (mC (.int 5)) mNil)))))))))) (tgN 15) (mSeq (mIf (mNot (mB (mCall 2 m__law_same_rows (mCons (mMeth "Book" "lines_of" 2 m_Book_lines_of [] (mName 9) (mCons (mName 15) mNil)) (mCons (mCall 2 m__law_pairs_of (mCons (mName 4) (mCons (mName 15) mNil))) mNil))))) (mRet (mC (.bl false))) mNext) (mSeq (mAsg 17 (mMeth "Book" "lines_of" 2 m_Book_lines_of [] (mName 14) (mCons (mName 15) mNil))) (mSeq (mDrop (mMut .lst fAppend (mName 17) (mCons (mTup (mCons (mName 15) (mCons (mName 15) mNil))) mNil))) (mIf (mNot (mB (mCall 2 m__law_same_rows (mCons (mMeth "Book" "lines_of" 2 m_Book_lines_of [] (mName 14) (mCons (mName 15) mNil)) (mCons (mCall 2 m__law_pairs_of (mCons (mName 12) (mCons (mName 15) mNil))) mNil))))) (mRet (mC (.bl false))) mNext))))) (mSeq (mAugO 14 "Book" m_Book___isub__ (mName 9)) (mSeq (mAsg 16 (mLc [18] (mIter (mName 5)) (tgN 18) (mB (mBin (fIn true) (mName 18) (mName 4))) (mName 18))) (mSeq (mFor (mRng1 (mCons (mC (.int 6)) mNil)) (tgN 15) (mIf (mNot (mB (mCall 2 m__law_same_rows (mCons (mMeth "Book" "lines_of" 2 m_Book_lines_of [] (mName 14) (mCons (mName 15) mNil)) (mCons (mCall 2 m__law_pairs_of (mCons (mName 16) (mCons (mName 15) mNil))) mNil))))) (mRet (mC (.bl false))) mNext)) (mSeq (mIf (mNot (mB (mCall 2 m__law_same_book (mCons (mName 8) (mCons (mName 3) mNil))))) (mRet (mC (.bl false))) mNext) (mSeq (mAugO 8 "Book" m_Book___ior__ (mMake "Book" 2 m_Book___init__ [] (mCons (mName 11) mNil))) (mRet (mAndV (mCall 2 m__law_same_book (mCons (mCell (mCallW 1 m_Book_full (mCons (mName 7) mNil))) (mCons (mName 3) mNil))) (mBin fEqD (mLenO "Book" m_Book___len__ (mCons (mName 8) mNil)) (mC (.int 120)))))))))))))))))))))))))))))
noncomputable def law_s0 : Mo Fl := (mAsg 1 (mCall 3 m__law_rows (mCons (mCall 2 m__law_cell (mCons (mName 0) (mCons (mC (.int 0)) mNil))) (mCons (mC (.int 1)) (mCons (mC (.int 6)) mNil)))))
noncomputable def law_s1 : Mo Fl := (mAsg 2 (mCall 1 m__law_lines (mCons (mName 1) mNil)))
noncomputable def law_s2 : Mo Fl := (mAsg 3 (mLc [18] (mIter (mCall 1 m__law_triples (mCons (mCB fLen (mCons (mName 1) mNil)) mNil))) (tgN 18) (mB (mBin (fIn false) (mTup (mCons (mBin fIx (mName 18) (mC (.int 1))) (mCons (mBin fIx (mName 18) (mC (.int 2))) mNil))) (mName 2))) (mName 18)))
noncomputable def law_s3 : Mo Fl := (mAsg 4 (mCall 2 m__law_counts (mCons (mCall 2 m__law_cell (mCons (mName 0) (mCons (mC (.int 1)) mNil))) (mCons (mC (.int 6)) mNil))))
noncomputable def law_s4 : Mo Fl := (mAsg 5 (mCall 2 m__law_counts (mCons (mCall 2 m__law_cell (mCons (mName 0) (mCons (mC (.int 2)) mNil))) (mCons (mC (.int 6)) mNil))))
noncomputable def law_s5 : Mo Fl := (mAsg 6 (mBin fAdd (mC (.int 6)) (mBin fIx (mCall 3 m__law_numbers (mCons (mCall 2 m__law_cell (mCons (mName 0) (mCons (mC (.int 3)) mNil))) (mCons (mC (.int 4)) (mCons (mLst (mCons (mBin fPow (mC (.int 10)) (mC (.int 9))) mNil)) mNil)))) (mC (.int 0)))))
noncomputable def law_s6 : Mo Fl := (mAsg 7 (mMake "Layout" 2 m_Layout___init__ [] (mCons (mLc [19] (mIter (mName 1)) (tgN 19) mYes (mCB fList (mCons (mName 19) mNil))) mNil)))
noncomputable def law_s7 : Mo Fl := (mAsg 8 (mCell (mCallW 1 m_Book_full (mCons (mName 7) mNil))))
noncomputable def law_s8 : Mo Fl := (mIf (mOr (mNot (mB (mCall 2 m__law_same_book (mCons (mName 8) (mCons (mName 3) mNil))))) (mNot (mB (mCall 2 m__law_same_rows (mCons (mListO "Layout" "rows" m_Layout___len__ (mCons (mName 7) mNil)) (mCons (mLc [19] (mIter (mName 1)) (tgN 19) mYes (mCB fTuple (mCons (mName 19) mNil))) mNil)))))) (mRet (mC (.bl false))) mNext)
noncomputable def law_s9 : Mo Fl := (mAsg 9 (mMake "Book" 2 m_Book___init__ [] (mCons (mCB fList (mCons (mName 4) mNil)) mNil)))
noncomputable def law_s10 : Mo Fl := (mAsg 10 (mMake "Book" 2 m_Book___init__ [] (mCons (mCB fList (mCons (mName 5) mNil)) mNil)))
noncomputable def law_s11 : Mo Fl := (mAsg 11 (mCall 1 m__law_triples (mCons (mC (.int 6)) mNil)))
noncomputable def law_s12 : Mo Fl := (mAsg 12 (mLc [18] (mIter (mName 11)) (tgN 18) (mOr (mB (mBin (fIn false) (mName 18) (mName 4))) (mB (mBin (fIn false) (mName 18) (mName 5)))) (mName 18)))
noncomputable def law_s13 : Mo Fl := (mAsg 13 (mLc [18] (mIter (mName 11)) (tgN 18) (mOr (mB (mBin (fIn false) (mName 18) (mName 12))) (mB (mBin (fIn false) (mName 18) (mName 3)))) (mName 18)))
noncomputable def law_s14 : Mo Fl := (mIf (mOr (mNot (mB (mCall 2 m__law_same_book (mCons (mCallV m_joined mNil) (mCons (mLst mNil) mNil))))) (mNot (mB (mCall 2 m__law_same_book (mCons (mCell (mCallV m_joined (mCons (mName 9) mNil))) (mCons (mName 4) mNil)))))) (mRet (mC (.bl false))) mNext)
noncomputable def law_s15 : Mo Fl := (mIf (mOr (mNot (mB (mCall 2 m__law_same_book (mCons (mCallV m_joined (mCons (mName 9) (mCons (mName 10) mNil))) (mCons (mName 12) mNil))))) (mNot (mB (mCall 2 m__law_same_book (mCons (mCallV m_joined (mCons (mName 10) (mCons (mName 9) (mCons (mName 8) mNil)))) (mCons (mName 13) mNil)))))) (mRet (mC (.bl false))) mNext)
noncomputable def law_s16 : Mo Fl := (mAsg 14 (mCell (mCallV m_joined (mCons (mName 9) mNil))))
noncomputable def law_s17 : Mo Fl := (mAugO 14 "Book" m_Book___ior__ (mName 10))
noncomputable def law_s18 : Mo Fl := (mIf (mOr (mNot (mB (mCall 2 m__law_same_book (mCons (mName 14) (mCons (mName 12) mNil))))) (mOr (mNot (mB (mCall 2 m__law_same_book (mCons (mName 9) (mCons (mName 4) mNil))))) (mNot (mB (mCall 2 m__law_same_book (mCons (mName 10) (mCons (mName 5) mNil))))))) (mRet (mC (.bl false))) mNext)
noncomputable def law_s19b_s0 : Mo Fl := (mIf (mNot (mB (mCall 2 m__law_same_rows (mCons (mMeth "Book" "lines_of" 2 m_Book_lines_of [] (mName 9) (mCons (mName 15) mNil)) (mCons (mCall 2 m__law_pairs_of (mCons (mName 4) (mCons (mName 15) mNil))) mNil))))) (mRet (mC (.bl false))) mNext)
noncomputable def law_s19b_s1 : Mo Fl := (mAsg 17 (mMeth "Book" "lines_of" 2 m_Book_lines_of [] (mName 14) (mCons (mName 15) mNil)))
noncomputable def law_s19b_s2 : Mo Fl := (mDrop (mMut .lst fAppend (mName 17) (mCons (mTup (mCons (mName 15) (mCons (mName 15) mNil))) mNil)))
noncomputable def law_s19b_s3 : Mo Fl := (mIf (mNot (mB (mCall 2 m__law_same_rows (mCons (mMeth "Book" "lines_of" 2 m_Book_lines_of [] (mName 14) (mCons (mName 15) mNil)) (mCons (mCall 2 m__law_pairs_of (mCons (mName 12) (mCons (mName 15) mNil))) mNil))))) (mRet (mC (.bl false))) mNext)
noncomputable def law_s19b_t3 : Mo Fl := law_s19b_s3
noncomputable def law_s19b_t2 : Mo Fl := mSeq law_s19b_s2 law_s19b_t3
noncomputable def law_s19b_t1 : Mo Fl := mSeq law_s19b_s1 law_s19b_t2
noncomputable def law_s19b_t0 : Mo Fl := mSeq law_s19b_s0 law_s19b_t1
noncomputable def law_s19 : Mo Fl := mFor (mIter (mLst (mCons (mUn fNeg (mC (.int 1))) (mCons (mName 6) (mCons (mC (.int 0)) (mCons (mC (.int 1)) (mCons (mC (.int 2)) (mCons (mC (.int 3)) (mCons (mC (.int 4)) (mCons (mC (.int 5)) mNil)))))))))) (tgN 15) law_s19b_t0
noncomputable def law_s20 : Mo Fl := (mAugO 14 "Book" m_Book___isub__ (mName 9))
noncomputable def law_s21 : Mo Fl := (mAsg 16 (mLc [18] (mIter (mName 5)) (tgN 18) (mB (mBin (fIn true) (mName 18) (mName 4))) (mName 18)))
noncomputable def law_s22b_s0 : Mo Fl := (mIf (mNot (mB (mCall 2 m__law_same_rows (mCons (mMeth "Book" "lines_of" 2 m_Book_lines_of [] (mName 14) (mCons (mName 15) mNil)) (mCons (mCall 2 m__law_pairs_of (mCons (mName 16) (mCons (mName 15) mNil))) mNil))))) (mRet (mC (.bl false))) mNext)
noncomputable def law_s22b_t0 : Mo Fl := law_s22b_s0
noncomputable def law_s22 : Mo Fl := mFor (mRng1 (mCons (mC (.int 6)) mNil)) (tgN 15) law_s22b_t0
noncomputable def law_s23 : Mo Fl := (mIf (mNot (mB (mCall 2 m__law_same_book (mCons (mName 8) (mCons (mName 3) mNil))))) (mRet (mC (.bl false))) mNext)
noncomputable def law_s24 : Mo Fl := (mAugO 8 "Book" m_Book___ior__ (mMake "Book" 2 m_Book___init__ [] (mCons (mName 11) mNil)))
noncomputable def law_s25 : Mo Fl := (mRet (mAndV (mCall 2 m__law_same_book (mCons (mCell (mCallW 1 m_Book_full (mCons (mName 7) mNil))) (mCons (mName 3) mNil))) (mBin fEqD (mLenO "Book" m_Book___len__ (mCons (mName 8) mNil)) (mC (.int 120)))))
noncomputable def law_t25 : Mo Fl := law_s25
noncomputable def law_t24 : Mo Fl := mSeq law_s24 law_t25
noncomputable def law_t23 : Mo Fl := mSeq law_s23 law_t24
noncomputable def law_t22 : Mo Fl := mSeq law_s22 law_t23
noncomputable def law_t21 : Mo Fl := mSeq law_s21 law_t22
noncomputable def law_t20 : Mo Fl := mSeq law_s20 law_t21
noncomputable def law_t19 : Mo Fl := mSeq law_s19 law_t20
noncomputable def law_t18 : Mo Fl := mSeq law_s18 law_t19
noncomputable def law_t17 : Mo Fl := mSeq law_s17 law_t18
noncomputable def law_t16 : Mo Fl := mSeq law_s16 law_t17
noncomputable def law_t15 : Mo Fl := mSeq law_s15 law_t16
noncomputable def law_t14 : Mo Fl := mSeq law_s14 law_t15
noncomputable def law_t13 : Mo Fl := mSeq law_s13 law_t14
noncomputable def law_t12 : Mo Fl := mSeq law_s12 law_t13
noncomputable def law_t11 : Mo Fl := mSeq law_s11 law_t12
noncomputable def law_t10 : Mo Fl := mSeq law_s10 law_t11
noncomputable def law_t9 : Mo Fl := mSeq law_s9 law_t10
noncomputable def law_t8 : Mo Fl := mSeq law_s8 law_t9
noncomputable def law_t7 : Mo Fl := mSeq law_s7 law_t8
noncomputable def law_t6 : Mo Fl := mSeq law_s6 law_t7
noncomputable def law_t5 : Mo Fl := mSeq law_s5 law_t6
noncomputable def law_t4 : Mo Fl := mSeq law_s4 law_t5
noncomputable def law_t3 : Mo Fl := mSeq law_s3 law_t4
noncomputable def law_t2 : Mo Fl := mSeq law_s2 law_t3
noncomputable def law_t1 : Mo Fl := mSeq law_s1 law_t2
noncomputable def law_t0 : Mo Fl := mSeq law_s0 law_t1
theorem law_cut : b_law = law_t0 := rfl
noncomputable def m_law : Fn := fnM 20 b_law
theorem ok_law (T : Tx P K mg) : FnM P w K mg base 6 T.f_law T.fd_law ["_law_script"] m_law := have sc := sc_law; defM2 T.F_law sc rfl fun cdv A outer s H E hr hu tk pa => pess_cons (pes_set 1 sc.nd (pee_callN rfl (ok__law_rows T) (hr.mono (by decide)) T.g__law_rows T.F__law_rows.kp T.b__law_rows tk (pea_cons (pee_callN rfl (ok__law_cell T) (hr.mono (by decide)) T.g__law_cell T.F__law_cell.kp T.b__law_cell tk (pea_cons (pee_name 0) (pea_cons pee_int pea_nil))) (pea_cons pee_int (pea_cons pee_int pea_nil))))) (pess_cons (pes_set 2 sc.nd (pee_callN rfl (ok__law_lines T) (hr.mono (by decide)) T.g__law_lines T.F__law_lines.kp T.b__law_lines tk (pea_cons (pee_name 1) pea_nil))) (pess_cons (pes_set 3 sc.nd (pee_lc sc.nd (own := [("_law_triple", 18)]) (l := [18]) (pei_seq (pee_callN rfl (ok__law_triples T) (hr.mono (by decide)) T.g__law_triples T.F__law_triples.kp T.b__law_triples tk (pea_cons (pee_cb cm_len T.n_len (pea_cons (pee_name 1) pea_nil)) pea_nil))) ⟨⟨rfl, by first | decide +kernel | (dsimp only [cxOf, envOfC, compEnvC, relabel]; decide +kernel) | exact of_decide_eq_true (by kernel_rfl), by first | decide +kernel | (dsimp only [cxOf, envOfC, compEnvC, relabel]; decide +kernel) | exact of_decide_eq_true (by kernel_rfl), by first | decide +kernel | (dsimp only [cxOf, envOfC, compEnvC, relabel]; decide +kernel) | exact of_decide_eq_true (by kernel_rfl), by first | decide +kernel | (dsimp only [cxOf, envOfC, compEnvC, relabel]; decide +kernel) | exact of_decide_eq_true (by kernel_rfl)⟩, (tgN_ne _), by decide, fun _ _ _ _ _ => by exact peg_name 18 sc.nd, fun _ _ _ _ _ => by exact pets_one (pet_cmp (om_in (hu65 hu)) (pee_tup (pea_cons (pee_ix (xm_ix (hu1 hu)) (pee_name 18) pee_int) (pea_cons (pee_ix (xm_ix (hu1 hu)) (pee_name 18) pee_int) pea_nil))) (pee_name 2)), fun _ _ _ _ _ => by exact pee_name 18⟩)) (pess_cons (pes_set 4 sc.nd (pee_callN rfl (ok__law_counts T) (hr.mono (by decide)) T.g__law_counts T.F__law_counts.kp T.b__law_counts tk (pea_cons (pee_callN rfl (ok__law_cell T) (hr.mono (by decide)) T.g__law_cell T.F__law_cell.kp T.b__law_cell tk (pea_cons (pee_name 0) (pea_cons pee_int pea_nil))) (pea_cons pee_int pea_nil)))) (pess_cons (pes_set 5 sc.nd (pee_callN rfl (ok__law_counts T) (hr.mono (by decide)) T.g__law_counts T.F__law_counts.kp T.b__law_counts tk (pea_cons (pee_callN rfl (ok__law_cell T) (hr.mono (by decide)) T.g__law_cell T.F__law_cell.kp T.b__law_cell tk (pea_cons (pee_name 0) (pea_cons pee_int pea_nil))) (pea_cons pee_int pea_nil)))) (pess_cons (pes_set 6 sc.nd (pee_op om_add pee_int (pee_ix (xm_ix (hu1 hu)) (pee_callN rfl (ok__law_numbers T) (hr.mono (by decide)) T.g__law_numbers T.F__law_numbers.kp T.b__law_numbers tk (pea_cons (pee_callN rfl (ok__law_cell T) (hr.mono (by decide)) T.g__law_cell T.F__law_cell.kp T.b__law_cell tk (pea_cons (pee_name 0) (pea_cons pee_int pea_nil))) (pea_cons pee_int (pea_cons (pee_lst (pea_cons (pee_op om_pow pee_int pee_int) pea_nil)) pea_nil)))) pee_int))) (pess_cons (pes_set 7 sc.nd (pee_makeN rfl T.c_Layout ⟨T.mk_Layout, T.mt_Layout___init__.at_, T.mt_Layout___init__.fn, T.kp_Layout⟩ (ok_Layout___init__ T) (hr.mono (by decide)) T.b_Layout___init__ .nil Dfl.nil tk (pea_cons (pee_lc sc.nd (own := [("_law_row_here", 19)]) (l := [19]) (pei_seq (pee_name 1)) ⟨⟨rfl, by first | decide +kernel | (dsimp only [cxOf, envOfC, compEnvC, relabel]; decide +kernel) | exact of_decide_eq_true (by kernel_rfl), by first | decide +kernel | (dsimp only [cxOf, envOfC, compEnvC, relabel]; decide +kernel) | exact of_decide_eq_true (by kernel_rfl), by first | decide +kernel | (dsimp only [cxOf, envOfC, compEnvC, relabel]; decide +kernel) | exact of_decide_eq_true (by kernel_rfl), by first | decide +kernel | (dsimp only [cxOf, envOfC, compEnvC, relabel]; decide +kernel) | exact of_decide_eq_true (by kernel_rfl)⟩, (tgN_ne _), by decide, fun _ _ _ _ _ => by exact peg_name 19 sc.nd, fun _ _ _ _ _ => by exact pets_nil, fun _ _ _ _ _ => by exact pee_ct cm_list T.n_list (pea_cons (pee_name 19) pea_nil)⟩) pea_nil))) (pess_cons (pes_set 8 sc.nd (pee_cell (pee_cmethN T.c_Book T.crd_Book T.cm_Book_full (ok_Book_full T) (hr.mono (by decide)) (pea_cons (pee_name 7) pea_nil)))) (pess_cons (pes_if ((pew_or (pet_not (pet_val (pee_callN rfl (ok__law_same_book T) (hr.mono (by decide)) T.g__law_same_book T.F__law_same_book.kp T.b__law_same_book tk (pea_cons (pee_name 8) (pea_cons (pee_name 3) pea_nil))))) (pew_or1 (pet_not (pet_val (pee_callN rfl (ok__law_same_rows T) (hr.mono (by decide)) T.g__law_same_rows T.F__law_same_rows.kp T.b__law_same_rows tk (pea_cons (pee_listO (n := 1) T.c_Layout ⟨T.mt_Layout___iter__.at_, T.mt_Layout___iter__.fn, T.mt_Layout___len__.at_, T.mt_Layout___len__.fn⟩ ((ok_Layout___iter__ T).mono (by decide)) T.b_Layout___iter__ ((ok_Layout___len__ T).mono (by decide)) rfl T.b_Layout___len__ (hr.mono (by decide)) T.n_list (pea_cons (pee_name 7) pea_nil)) (pea_cons (pee_lc sc.nd (own := [("_law_row_here", 19)]) (l := [19]) (pei_seq (pee_name 1)) ⟨⟨rfl, by first | decide +kernel | (dsimp only [cxOf, envOfC, compEnvC, relabel]; decide +kernel) | exact of_decide_eq_true (by kernel_rfl), by first | decide +kernel | (dsimp only [cxOf, envOfC, compEnvC, relabel]; decide +kernel) | exact of_decide_eq_true (by kernel_rfl), by first | decide +kernel | (dsimp only [cxOf, envOfC, compEnvC, relabel]; decide +kernel) | exact of_decide_eq_true (by kernel_rfl), by first | decide +kernel | (dsimp only [cxOf, envOfC, compEnvC, relabel]; decide +kernel) | exact of_decide_eq_true (by kernel_rfl)⟩, (tgN_ne _), by decide, fun _ _ _ _ _ => by exact peg_name 19 sc.nd, fun _ _ _ _ _ => by exact pets_nil, fun _ _ _ _ _ => by exact pee_ct cm_tuple T.n_tuple (pea_cons (pee_name 19) pea_nil)⟩) pea_nil))))))).pt) (pess_one (pes_ret pee_bl)) pess_nil) (pess_cons (pes_set 9 sc.nd (pee_makeN rfl T.c_Book ⟨T.mk_Book, T.mt_Book___init__.at_, T.mt_Book___init__.fn, T.kp_Book⟩ (ok_Book___init__ T) (hr.mono (by decide)) T.b_Book___init__ .nil Dfl.nil tk (pea_cons (pee_ct cm_list T.n_list (pea_cons (pee_name 4) pea_nil)) pea_nil))) (pess_cons (pes_set 10 sc.nd (pee_makeN rfl T.c_Book ⟨T.mk_Book, T.mt_Book___init__.at_, T.mt_Book___init__.fn, T.kp_Book⟩ (ok_Book___init__ T) (hr.mono (by decide)) T.b_Book___init__ .nil Dfl.nil tk (pea_cons (pee_ct cm_list T.n_list (pea_cons (pee_name 5) pea_nil)) pea_nil))) (pess_cons (pes_set 11 sc.nd (pee_callN rfl (ok__law_triples T) (hr.mono (by decide)) T.g__law_triples T.F__law_triples.kp T.b__law_triples tk (pea_cons pee_int pea_nil))) (pess_cons (pes_set 12 sc.nd (pee_lc sc.nd (own := [("_law_triple", 18)]) (l := [18]) (pei_seq (pee_name 11)) ⟨⟨rfl, by first | decide +kernel | (dsimp only [cxOf, envOfC, compEnvC, relabel]; decide +kernel) | exact of_decide_eq_true (by kernel_rfl), by first | decide +kernel | (dsimp only [cxOf, envOfC, compEnvC, relabel]; decide +kernel) | exact of_decide_eq_true (by kernel_rfl), by first | decide +kernel | (dsimp only [cxOf, envOfC, compEnvC, relabel]; decide +kernel) | exact of_decide_eq_true (by kernel_rfl), by first | decide +kernel | (dsimp only [cxOf, envOfC, compEnvC, relabel]; decide +kernel) | exact of_decide_eq_true (by kernel_rfl)⟩, (tgN_ne _), by decide, fun _ _ _ _ _ => by exact peg_name 18 sc.nd, fun _ _ _ _ _ => by exact pets_one ((pew_or (pet_cmp (om_in (hu65 hu)) (pee_name 18) (pee_name 4)) (pew_or1 (pet_cmp (om_in (hu65 hu)) (pee_name 18) (pee_name 5)))).pt), fun _ _ _ _ _ => by exact pee_name 18⟩)) (pess_cons (pes_setLc 13 sc.nd (own := [("_law_triple", 18)]) (l := [18]) (pei_seq (pee_name 11)) ⟨⟨rfl, by first | decide +kernel | (dsimp only [cxOf, envOfC, compEnvC, relabel]; decide +kernel) | exact of_decide_eq_true (by kernel_rfl), by first | decide +kernel | (dsimp only [cxOf, envOfC, compEnvC, relabel]; decide +kernel) | exact of_decide_eq_true (by kernel_rfl), by first | decide +kernel | (dsimp only [cxOf, envOfC, compEnvC, relabel]; decide +kernel) | exact of_decide_eq_true (by kernel_rfl), by first | decide +kernel | (dsimp only [cxOf, envOfC, compEnvC, relabel]; decide +kernel) | exact of_decide_eq_true (by kernel_rfl)⟩, (tgN_ne _), by decide, fun _ _ _ _ _ => by exact peg_name 18 sc.nd, fun _ _ _ _ _ => by exact pets_one ((pew_or (pet_cmp (om_in (hu65 hu)) (pee_name 18) (pee_name 12)) (pew_or1 (pet_cmp (om_in (hu65 hu)) (pee_name 18) (pee_name 3)))).pt), fun _ _ _ _ _ => by exact pee_name 18⟩) (pess_cons (pes_if ((pew_or (pet_not (pet_val (pee_callN rfl (ok__law_same_book T) (hr.mono (by decide)) T.g__law_same_book T.F__law_same_book.kp T.b__law_same_book tk (pea_cons (pee_callV0 (ok_joined T) (hr.mono (by decide)) T.g_joined T.F_joined.kp) (pea_cons (pee_lst pea_nil) pea_nil))))) (pew_or1 (pet_not (pet_val (pee_callN rfl (ok__law_same_book T) (hr.mono (by decide)) T.g__law_same_book T.F__law_same_book.kp T.b__law_same_book tk (pea_cons (pee_cell (pee_callV (ok_joined T) (hr.mono (by decide)) T.g_joined T.F_joined.kp (pea_cons (pee_name 9) pea_nil))) (pea_cons (pee_name 4) pea_nil))))))).pt) (pess_one (pes_ret pee_bl)) pess_nil) (pess_cons (pes_if ((pew_or (pet_not (pet_val (pee_callN rfl (ok__law_same_book T) (hr.mono (by decide)) T.g__law_same_book T.F__law_same_book.kp T.b__law_same_book tk (pea_cons (pee_callV (ok_joined T) (hr.mono (by decide)) T.g_joined T.F_joined.kp (pea_cons (pee_name 9) (pea_cons (pee_name 10) pea_nil))) (pea_cons (pee_name 12) pea_nil))))) (pew_or1 (pet_not (pet_val (pee_callN rfl (ok__law_same_book T) (hr.mono (by decide)) T.g__law_same_book T.F__law_same_book.kp T.b__law_same_book tk (pea_cons (pee_callV (ok_joined T) (hr.mono (by decide)) T.g_joined T.F_joined.kp (pea_cons (pee_name 10) (pea_cons (pee_name 9) (pea_cons (pee_name 8) pea_nil)))) (pea_cons (pee_name 13) pea_nil))))))).pt) (pess_one (pes_ret pee_bl)) pess_nil) (pess_cons (pes_set 14 sc.nd (pee_cell (pee_callV (ok_joined T) (hr.mono (by decide)) T.g_joined T.F_joined.kp (pea_cons (pee_name 9) pea_nil)))) (pess_cons (pes_augO (op := .BitOr) 14 sc.nd rfl T.c_Book (ok_Book___ior__ T) rfl (hr.mono (by decide)) T.b_Book___ior__ T.sf_Book T.in_Book T.mt_Book___ior__.at_ T.mt_Book___ior__.fn T.nfs_Book (pee_name 10)) (pess_cons (pes_if ((pew_or (pet_not (pet_val (pee_callN rfl (ok__law_same_book T) (hr.mono (by decide)) T.g__law_same_book T.F__law_same_book.kp T.b__law_same_book tk (pea_cons (pee_name 14) (pea_cons (pee_name 12) pea_nil))))) (pew_or (pet_not (pet_val (pee_callN rfl (ok__law_same_book T) (hr.mono (by decide)) T.g__law_same_book T.F__law_same_book.kp T.b__law_same_book tk (pea_cons (pee_name 9) (pea_cons (pee_name 4) pea_nil))))) (pew_or1 (pet_not (pet_val (pee_callN rfl (ok__law_same_book T) (hr.mono (by decide)) T.g__law_same_book T.F__law_same_book.kp T.b__law_same_book tk (pea_cons (pee_name 10) (pea_cons (pee_name 5) pea_nil)))))))).pt) (pess_one (pes_ret pee_bl)) pess_nil) (pess_cons (pes_for pa (pei_seq (pee_lst (pea_cons (pee_un um_neg pee_int) (pea_cons (pee_name 6) (pea_cons pee_int (pea_cons pee_int (pea_cons pee_int (pea_cons pee_int (pea_cons pee_int (pea_cons pee_int pea_nil)))))))))) (peg_name 15 sc.nd) (pess_cons (pes_if (pet_not (pet_val (pee_callN rfl (ok__law_same_rows T) (hr.mono (by decide)) T.g__law_same_rows T.F__law_same_rows.kp T.b__law_same_rows tk (pea_cons (pee_methN rfl T.c_Book T.cl_Book T.mt_Book_lines_of (ok_Book_lines_of T) (hr.mono (by decide)) T.b_Book_lines_of .nil Dfl.nil tk (pee_name 9) (pea_cons (pee_name 15) pea_nil)) (pea_cons (pee_callN rfl (ok__law_pairs_of T) (hr.mono (by decide)) T.g__law_pairs_of T.F__law_pairs_of.kp T.b__law_pairs_of tk (pea_cons (pee_name 4) (pea_cons (pee_name 15) pea_nil))) pea_nil))))) (pess_one (pes_ret pee_bl)) pess_nil) (pess_cons (pes_set 17 sc.nd (pee_methN rfl T.c_Book T.cl_Book T.mt_Book_lines_of (ok_Book_lines_of T) (hr.mono (by decide)) T.b_Book_lines_of .nil Dfl.nil tk (pee_name 14) (pea_cons (pee_name 15) pea_nil))) (pess_cons (pes_expr (pee_mut (k := .lst) PySem.F.plainAttrs_list PySem.F.slot_list_append PySem.F.type_list_append mt_append mu_append (pee_name 17) (pea_cons (pee_tup (pea_cons (pee_name 15) (pea_cons (pee_name 15) pea_nil))) pea_nil))) (pess_one (pes_if (pet_not (pet_val (pee_callN rfl (ok__law_same_rows T) (hr.mono (by decide)) T.g__law_same_rows T.F__law_same_rows.kp T.b__law_same_rows tk (pea_cons (pee_methN rfl T.c_Book T.cl_Book T.mt_Book_lines_of (ok_Book_lines_of T) (hr.mono (by decide)) T.b_Book_lines_of .nil Dfl.nil tk (pee_name 14) (pea_cons (pee_name 15) pea_nil)) (pea_cons (pee_callN rfl (ok__law_pairs_of T) (hr.mono (by decide)) T.g__law_pairs_of T.F__law_pairs_of.kp T.b__law_pairs_of tk (pea_cons (pee_name 12) (pea_cons (pee_name 15) pea_nil))) pea_nil))))) (pess_one (pes_ret pee_bl)) pess_nil)))))) (pess_cons (pes_augO (op := .Sub) 14 sc.nd rfl T.c_Book (ok_Book___isub__ T) rfl (hr.mono (by decide)) T.b_Book___isub__ T.sf_Book T.in_Book T.mt_Book___isub__.at_ T.mt_Book___isub__.fn T.nfs_Book (pee_name 9)) (pess_cons (pes_setLc 16 sc.nd (own := [("_law_triple", 18)]) (l := [18]) (pei_seq (pee_name 5)) ⟨⟨rfl, by first | decide +kernel | (dsimp only [cxOf, envOfC, compEnvC, relabel]; decide +kernel) | exact of_decide_eq_true (by kernel_rfl), by first | decide +kernel | (dsimp only [cxOf, envOfC, compEnvC, relabel]; decide +kernel) | exact of_decide_eq_true (by kernel_rfl), by first | decide +kernel | (dsimp only [cxOf, envOfC, compEnvC, relabel]; decide +kernel) | exact of_decide_eq_true (by kernel_rfl), by first | decide +kernel | (dsimp only [cxOf, envOfC, compEnvC, relabel]; decide +kernel) | exact of_decide_eq_true (by kernel_rfl)⟩, (tgN_ne _), by decide, fun _ _ _ _ _ => by exact peg_name 18 sc.nd, fun _ _ _ _ _ => by exact pets_one (pet_cmp (om_notIn (hu65 hu)) (pee_name 18) (pee_name 4)), fun _ _ _ _ _ => by exact pee_name 18⟩) (pess_cons (pes_for pa (pei_rng1 T.n_range (pea_cons pee_int pea_nil)) (peg_name 15 sc.nd) (pess_one (pes_if (pet_not (pet_val (pee_callN rfl (ok__law_same_rows T) (hr.mono (by decide)) T.g__law_same_rows T.F__law_same_rows.kp T.b__law_same_rows tk (pea_cons (pee_methN rfl T.c_Book T.cl_Book T.mt_Book_lines_of (ok_Book_lines_of T) (hr.mono (by decide)) T.b_Book_lines_of .nil Dfl.nil tk (pee_name 14) (pea_cons (pee_name 15) pea_nil)) (pea_cons (pee_callN rfl (ok__law_pairs_of T) (hr.mono (by decide)) T.g__law_pairs_of T.F__law_pairs_of.kp T.b__law_pairs_of tk (pea_cons (pee_name 16) (pea_cons (pee_name 15) pea_nil))) pea_nil))))) (pess_one (pes_ret pee_bl)) pess_nil))) (pess_cons (pes_if (pet_not (pet_val (pee_callN rfl (ok__law_same_book T) (hr.mono (by decide)) T.g__law_same_book T.F__law_same_book.kp T.b__law_same_book tk (pea_cons (pee_name 8) (pea_cons (pee_name 3) pea_nil))))) (pess_one (pes_ret pee_bl)) pess_nil) (pess_cons (pes_augO (op := .BitOr) 8 sc.nd rfl T.c_Book (ok_Book___ior__ T) rfl (hr.mono (by decide)) T.b_Book___ior__ T.sf_Book T.in_Book T.mt_Book___ior__.at_ T.mt_Book___ior__.fn T.nfs_Book (pee_makeN rfl T.c_Book ⟨T.mk_Book, T.mt_Book___init__.at_, T.mt_Book___init__.fn, T.kp_Book⟩ (ok_Book___init__ T) (hr.mono (by decide)) T.b_Book___init__ .nil Dfl.nil tk (pea_cons (pee_name 11) pea_nil))) (pess_one (pes_ret (pee_and (pee_callN rfl (ok__law_same_book T) (hr.mono (by decide)) T.g__law_same_book T.F__law_same_book.kp T.b__law_same_book tk (pea_cons (pee_cell (pee_cmethN T.c_Book T.crd_Book T.cm_Book_full (ok_Book_full T) (hr.mono (by decide)) (pea_cons (pee_name 7) pea_nil))) (pea_cons (pee_name 3) pea_nil))) (pee_one (pee_cmp (om_eqD (hu64 hu)) (pee_lenO T.c_Book (ok_Book___len__ T) rfl (hr.mono (by decide)) T.b_Book___len__ tk T.mt_Book___len__.at_ T.mt_Book___len__.fn T.n_len (pea_cons (pee_name 8) pea_nil)) pee_int)))))))))))))))))))))))))))))
end
end Z
set_option linter.all false
set_option maxRecDepth 100000
namespace Z
open PySem PySem.Spec PyProof.Rows L2
theorem x_cell (ns : List Int) (k : Nat) (G : List Cell) : m__law_cell [.frl (ns.map W.int), .int k] G = some (.ok (.val (.int (ns.getD k 0))), G) := by
  unfold m__law_cell
  rw [fnM_e]
  by_cases h : k < ns.length
  · simp [b__law_cell, h, atI_mapI]
  · simp [b__law_cell, h]
theorem x_is_int (k : Int) (G : List Cell) : m__law_is_int [.int k] G = some (.ok (.val (.bl true)), G) := by
  unfold m__law_is_int
  rw [fnM_e]
  simp [b__law_is_int, tyOfW, ti_int, ti_bool, tabAt]
theorem x_numbers (c salt : Int) (ls : List Int) (hl : ∀ l ∈ ls, 0 < l ∧ l.natAbs.log2 < 9000) (hn : ls.length ≤ 1000) (G : List Cell) :
    ∃ xs : List Int, m__law_numbers [.int c, .int salt, .lst (ls.map W.int)] G = some (.ok (.own (.lst (xs.map W.int))), G) ∧ xs.length = ls.length ∧ ∀ (i : Nat) (x l : Int), xs[i]? = some x → ls[i]? = some l → 0 ≤ x ∧ x < l := by
  unfold m__law_numbers
  rw [fnM_e]
  simp [b__law_numbers, sz]
  generalize hF : forL _ _ _ _ = F
  obtain ⟨s', rfl, xs, rest, v, rfl, h1, h2⟩ := forL_at hF (fun i s => ∃ (xs : List Int) (rest : Int) (v : SV), s = ⟨[.val (.int c), .val (.int salt), .val (.lst (ls.map W.int)), .val (.int rest), .own (.lst (xs.map W.int)), v], G⟩ ∧ xs.length = i ∧
    ∀ (i : Nat) (x l : Int), xs[i]? = some x → ls[i]? = some l → 0 ≤ x ∧ x < l) ⟨[], c, .non, rfl, rfl, fun i x l h => by simp at h⟩ (by
      rintro i hi s ⟨xs, rest, v, rfl, h1, h2⟩
      simp at hi
      have hm : ls[i] ∈ ls := List.getElem_mem hi
      obtain ⟨l1, l2⟩ := hl _ hm
      have ext : ∀ y : Int, 0 ≤ y → y < ls[i] → ∀ (j : Nat) (x l : Int), (xs ++ [y])[j]? = some x → ls[j]? = some l → 0 ≤ x ∧ x < l := fun y y0 y1 j x l e1 e2 => by
        rcases Nat.lt_or_ge j xs.length with q | q
        · rw [List.getElem?_append_left q] at e1
          exact h2 j x l e1 e2
        · rw [List.getElem?_append_right q] at e1
          have : j = i := by
            have := get_lt e1
            simp at this
            omega
          subst this
          rw [h1] at e1
          simp at e1
          rw [List.getElem?_eq_getElem hi] at e2
          cases e2
          subst e1
          exact ⟨y0, y1⟩
      have s1 : xs.length < sz := by show _ < 16777216; omega
      by_cases hc : c < 1000000000000000000
      · have l7 : Nat.log2 7 < 9000 := by decide
        simp [fAppend, s1, CPow, CMul, CDivW, hc, l1, l7]
        exact ⟨xs ++ [(rest * 75 + 74 + salt) % 65537 / 7 % ls[i]], by simp, by simp [h1], ext _ (Int.emod_nonneg _ (by omega)) (Int.emod_lt_of_pos _ l1)⟩
      · simp [fAppend, s1, CPow, CMul, CDivW, hc, l1, l2]
        exact ⟨xs ++ [rest % ls[i]], by simp, by simp [h1], ext _ (Int.emod_nonneg _ (by omega)) (Int.emod_lt_of_pos _ l1)⟩)
  simp
  exact ⟨xs, rfl, by simpa using h1, h2⟩
def tupI (xs : List Int) : W := .tup (xs.map W.int)
def lstI (xs : List Int) : W := .lst (xs.map W.int)
@[simp] theorem ty_int {i : Int} : tyOfW (.int i) = some (.ty "int") := rfl
@[simp] theorem ty_bl {i : Bool} : tyOfW (.bl i) = some (.ty "bool") := rfl
@[simp] theorem ty_lst {i : List W} : tyOfW (.lst i) = some (.ty "list") := rfl
@[simp] theorem ty_frl {i : List W} : tyOfW (.frl i) = some (.ty "list") := rfl
@[simp] theorem ty_tup {i : List W} : tyOfW (.tup i) = some (.ty "tuple") := rfl
@[simp] theorem fFld_o {nms : List Str} {f nm : Str} {fs : List (Str × W)} : fFld nms f (.obj nm fs) = if nm ∈ nms then (fs.lookup f).map .imm else none := rfl
theorem emb_row : Emb tupI 1 := emb_tup emb_int
section
variable {r : List SV} {G : List Cell} {s : S} {rs : List (List Int)} {ms : List Int} {xs : List W}
@[simp] theorem look_tupI {k : List Int} : look (.val (tupI k)) ⟨r, G⟩ = some (.ok (tupI k), ⟨r, G⟩) := rfl
@[simp] theorem look_lstI {k : List Int} : look (.val (lstI k)) ⟨r, G⟩ = some (.ok (lstI k), ⟨r, G⟩) := rfl
@[simp] theorem deref_tupI {k : List Int} : derefW s (tupI k) = some (tupI k) := rfl
@[simp] theorem deref_lstI {k : List Int} : derefW s (lstI k) = some (lstI k) := rfl
@[simp] theorem walk_tupI {k : List Int} : walkOf s (tupI k) = some ⟨k.map W.int, none⟩ := rfl
@[simp] theorem walk_lstI {k : List Int} : walkOf s (lstI k) = some ⟨k.map W.int, none⟩ := rfl
@[simp] theorem ty_tupI {k : List Int} : tyOfW (tupI k) = some (.ty "tuple") := rfl
@[simp] theorem ty_lstI {k : List Int} : tyOfW (lstI k) = some (.ty "list") := rfl
end
theorem fAll_trues {γ : Type} (xs : List γ) : fAll [.lst (xs.map fun _ => W.bl true)] = some (.imm (.bl true)) := by
  have : blsOf (xs.map fun _ => W.bl true) = some (xs.map fun _ => true) := by
    induction xs with
    | nil => rfl
    | cons x xs ih => simp [blsOf, ih]
  unfold fAll
  simp [this]
theorem fNeD_same (a : Int) : fNeD (.int a) (.int a) = some (.imm (.bl false)) := by rw [fNeD_emb emb_int (by decide)]; simp
theorem x_isints {a b c : SV} (xs : List Int) (h : xs.length ≤ sz) (G : List Cell) : lcL [3] (tgN 3) mYes (mCall 1 m__law_is_int (mCons (mName 3) mNil)) ⟨xs.map W.int, none⟩ (xs.map W.int) [] ⟨[a, b, c, .non], G⟩ =
    some (.ok (.own (.lst (xs.map fun _ => W.bl true))), ⟨[a, b, c, .non], G⟩) := by
  rw [lc_all (by exact trivial) (fun _ => W.bl true)]
  · simp
  · intro k hk
    exact ⟨⟨[a, b, c, .val (.int k)], G⟩, by simp, ⟨[a, b, c, .val (.int k)], G⟩, by simp [x_is_int], by simp⟩
  · simpa using h
theorem x_same (rs : List (List Int)) (hl : rs.length ≤ 1000) (hr : ∀ xs ∈ rs, xs.length ≤ sz) (G : List Cell) : m__law_same_rows [.lst (rs.map tupI), .lst (rs.map tupI)] G = some (.ok (.val (.bl true)), G) := by
  unfold m__law_same_rows
  rw [fnM_e]
  have hb : Rk (rs.length : Int) := rk_nat (by omega)
  have t1 : tabAt ti_list (.ty "list") = some true := by decide +kernel
  have t2 : tabAt ti_tuple (.ty "tuple") = some true := by decide +kernel
  simp [b__law_same_rows, t1, fNeD_same, hb]
  generalize hF : forL _ _ _ _ = F
  obtain ⟨s', rfl, v2, rfl⟩ := forL_at hF (fun i s => ∃ v2, s = ⟨[.val (.lst (rs.map tupI)), .val (.lst (rs.map tupI)), v2, .non], G⟩) ⟨_, rfl⟩ (by
    rintro i hi s ⟨v2, rfl⟩
    simp [rngW] at hi
    have hi' : i < rs.length := by omega
    have e : atI (rs.map tupI) (i : Int) = some (tupI rs[i]) := atI_nat (by simp [hi'])
    have hne : fNeD (tupI rs[i]) (tupI rs[i]) = some (.imm (.bl false)) := by rw [fNeD_emb emb_row (by decide)]; simp
    have ha := fAll_trues rs[i]
    have hq := hr rs[i] (List.getElem_mem hi')
    simp [rngW, e, t2, hne, x_isints _ hq, ha])
  simp
@[simp] theorem intsOf_ints : ∀ xs : List Int, intsOf (xs.map W.int) = some xs
  | [] => rfl
  | x :: xs => by simp [intsOf, intsOf_ints xs]
def canon (xs : List Int) : List Int := ((List.range 8).filter fun (k : Nat) => decide ((k : Int) ∈ xs)).map fun (k : Nat) => (k : Int)
def bad (k : Int) : Bool := !(decide (0 ≤ k) && decide (k < 8))
theorem canon_e (xs : List Int) : canon xs = ((List.range 8).filter fun (k : Nat) => decide ((0 : Int) + (k : Int) ∈ xs)).map fun (k : Nat) => (0 : Int) + (k : Int) := by
  unfold canon
  simp only [Int.zero_add]
def mask (xs : List Int) : Int := (xs.map fun k => (2 : Int) ^ k.toNat).sum
theorem canon_mem {xs : List Int} {k : Int} (h : k ∈ canon xs) : 0 ≤ k ∧ k < 8 ∧ k ∈ xs := by
  unfold canon at h
  simp at h
  obtain ⟨j, ⟨h1, h2⟩, rfl⟩ := h
  exact ⟨by omega, by omega, h2⟩
theorem canon_len (xs : List Int) : (canon xs).length ≤ 8 := by
  unfold canon
  rw [List.length_map]
  exact Nat.le_trans (List.length_filter_le _ _) (by simp)
theorem canon_idem (xs : List Int) : canon (canon xs) = canon xs := by
  have : ∀ k : Int, k ∈ canon (canon xs) ↔ k ∈ canon xs := by
    intro k
    constructor
    · intro h; exact (canon_mem h).2.2
    · intro h
      obtain ⟨a, b, _⟩ := canon_mem h
      unfold canon
      simp
      exact ⟨k.toNat, ⟨by omega, by rw [Int.toNat_of_nonneg a]; simpa [canon] using h⟩, Int.toNat_of_nonneg a⟩
  unfold canon
  congr 1
  apply List.filter_congr
  intro k hk
  have hk8 := List.mem_range.mp hk
  by_cases h : (k : Int) ∈ xs
  · have : (k : Int) ∈ canon xs := by
      unfold canon; simp; exact ⟨k, ⟨hk8, h⟩, rfl⟩
    simpa [h, canon] using this
  · have : ¬ (k : Int) ∈ canon xs := fun z => h (canon_mem z).2.2
    simpa [h, canon] using this
end Z
set_option linter.all false
set_option maxRecDepth 100000
set_option maxHeartbeats 1000000
namespace Z
open PySem PySem.Spec PyProof.Rows L2
def cube : List (List Int) := (List.range 6).flatMap fun (a : Nat) => (List.range 6).flatMap fun (b : Nat) => (List.range 6).map fun (c : Nat) => [(a : Int), (b : Int), (c : Int)]
def okT : List Int → Bool
  | [a, b, c] => decide (a ≠ b) && (decide (a ≠ c) && decide (b ≠ c))
  | _ => false
def every : List (List Int) := cube.filter okT
theorem cube_nodup : cube.Nodup := by decide +kernel
theorem every_nodup : every.Nodup := cube_nodup.filter _
theorem every_length : every.length = 120 := by decide +kernel
theorem every_mem {t : List Int} (h : t ∈ every) : ∃ a b c : Nat, t = [(a : Int), (b : Int), (c : Int)] ∧ a < 6 ∧ b < 6 ∧ c < 6 ∧ a ≠ b ∧ a ≠ c ∧ b ≠ c := by
  obtain ⟨h1, h2⟩ := List.mem_filter.mp h
  simp only [cube, List.mem_flatMap, List.mem_map, List.mem_range] at h1
  obtain ⟨a, ha, b, hb, c, hc, rfl⟩ := h1
  simp [okT] at h2
  exact ⟨a, b, c, rfl, ha, hb, hc, by omega, by omega, by omega⟩
theorem every_ne {t : List Int} (h : t ∈ every) : t ≠ [] := by
  obtain ⟨a, b, c, rfl, _⟩ := every_mem h
  simp
def asc (cs : List (List Int)) : List (List Int) := cube.filter fun t => decide (t ∈ cs)
theorem asc_nodup (cs : List (List Int)) : (asc cs).Nodup := cube_nodup.filter _
theorem asc_sub (p : List Int → Bool) : asc (every.filter p) = every.filter p := by
  unfold asc every
  rw [List.filter_filter]
  refine List.filter_congr fun t m => ?_
  rw [Bool.eq_iff_iff]
  simp [m, and_comm]
def book (ts : List (List Int)) : W := .obj "Book" [("rows", .dF (rowsD ts))]
section
variable {r : List SV} {G : List Cell} {s : S} {ts us : List (List Int)} {xs : List W}
@[simp] theorem lk_book {a : W} : List.lookup ("rows" : Str) [("rows", a)] = some a := rfl
@[simp] theorem look_book : look (.val (book ts)) ⟨r, G⟩ = some (.ok (book ts), ⟨r, G⟩) := rfl
@[simp] theorem deref_book : derefW s (book ts) = some (book ts) := rfl
@[simp] theorem ty_book : tyOfW (book ts) = some (.own "Book") := rfl
@[simp high] theorem chk1_book : chk1 "Book" (book ts :: xs) ⟨r, G⟩ = some (.ok (), ⟨r, G⟩) := by simp [book]
@[simp] theorem rows_book : fldS "Book" "rows" rdD (book ts) = if ts.length ≤ sz then some (ts.map tupI) else none := by
  simp [fldS, book]
  rw [rowsD_keys]
  rfl
@[simp] theorem fFld_book : fFld fn_rows "rows" (book ts) = some (.imm (.dF (rowsD ts))) := by simp [book, fn_rows]
@[simp high] theorem chkO_book : chkO "Book" nf_Book [book ts, book us] ⟨r, G⟩ = some (.ok (), ⟨r, G⟩) := by simp [book, tyOfW, nf_Book]
end
theorem fIn_rowsT (neg : Bool) (ts : List (List Int)) {t : List Int} (h : t ≠ []) : fIn neg (tupI t) (.dF (rowsD ts)) = some (.imm (.bl (decide (t ∈ ts) != neg))) := fIn_rows neg ts h
theorem in_range {x0 x1 x2 x3 : SV} {G : List Cell} (xs : List Int) (h : ∀ x ∈ xs, 0 ≤ x ∧ x < 6) (hl : xs.length ≤ sz) : lcL [4] (tgN 4) mYes (mChain fLe fLt (mC (.int 0)) (mName 4) (mC (.int 6))) ⟨xs.map W.int, none⟩ (xs.map W.int) [] ⟨[x0, x1, x2, x3, .non], G⟩ =
    some (.ok (.own (.lst (xs.map fun _ => W.bl true))), ⟨[x0, x1, x2, x3, .non], G⟩) := by
  rw [lc_all (by exact trivial) (fun _ => W.bl true)]
  · simp
  · intro k hk
    obtain ⟨h1, h2⟩ := h k hk
    exact ⟨⟨[x0, x1, x2, x3, .val (.int k)], G⟩, by simp, ⟨[x0, x1, x2, x3, .val (.int k)], G⟩, by simp [h1, h2], by simp⟩
  · simpa using hl
theorem x_is_count {t : List Int} (h : t ∈ every) (G : List Cell) : m_is_count [tupI t] G = some (.ok (.val (.bl true)), G) := by
  obtain ⟨a, b, c, rfl, ha, hb, hc, hab, hac, hbc⟩ := every_mem h
  unfold m_is_count
  rw [fnM_e]
  have e1 : ¬ (a : Int) = b := by omega
  have e2 : ¬ (a : Int) = c := by omega
  have e3 : ¬ (b : Int) = c := by omega
  have lc := in_range (x0 := .val (.tup [.int a, .int b, .int c])) (x1 := .val (.int a)) (x2 := .val (.int b)) (x3 := .val (.int c)) (G := G) [(a : Int), (b : Int), (c : Int)] (by
    intro x hx
    simp at hx
    rcases hx with rfl | rfl | rfl <;> omega) (by show 3 ≤ 16777216; omega)
  have all := fAll_trues [(a : Int), (b : Int), (c : Int)]
  simp only [List.map_cons, List.map_nil] at lc all
  simp [b_is_count, tupI, fNeD_same, fEqD_i, e1, e2, e3, lc, all]
theorem asc_fold (cs : List (List Int)) : (List.range 6).foldl (fun (acc : KVs) (a : Nat) => (List.range 6).foldl (fun acc (b : Nat) => ((List.range 6).filter fun (c : Nat) => decide ([(a : Int), (b : Int), (c : Int)] ∈ cs)).foldl (fun acc (c : Nat) => putW acc (kT [(a : Int), (b : Int), (c : Int)]) (.bl true)) acc) acc) [] = rowsD (asc cs) := by
  have one : ∀ (acc : KVs) (a b : Nat), ((List.range 6).filter fun (c : Nat) => decide ([(a : Int), (b : Int), (c : Int)] ∈ cs)).foldl (fun acc (c : Nat) => putW acc (kT [(a : Int), (b : Int), (c : Int)]) (.bl true)) acc =
      (((List.range 6).map fun (c : Nat) => [(a : Int), (b : Int), (c : Int)]).filter fun t => decide (t ∈ cs)).foldl (fun acc t => putW acc (kT t) (.bl true)) acc := fun acc a b => by
    rw [List.filter_map, List.foldl_map]
    rfl
  have two : ∀ (acc : KVs) (a : Nat), (List.range 6).foldl (fun acc (b : Nat) => (((List.range 6).map fun (c : Nat) => [(a : Int), (b : Int), (c : Int)]).filter fun t => decide (t ∈ cs)).foldl (fun acc t => putW acc (kT t) (.bl true)) acc) acc =
      (((List.range 6).flatMap fun (b : Nat) => (List.range 6).map fun (c : Nat) => [(a : Int), (b : Int), (c : Int)]).filter fun t => decide (t ∈ cs)).foldl (fun acc t => putW acc (kT t) (.bl true)) acc := fun acc a => by
    rw [List.filter_flatMap, List.foldl_flatMap]
  simp only [one, two]
  have three : (List.range 6).foldl (fun acc (a : Nat) => (((List.range 6).flatMap fun (b : Nat) => (List.range 6).map fun (c : Nat) => [(a : Int), (b : Int), (c : Int)]).filter fun t => decide (t ∈ cs)).foldl (fun acc t => putW acc (kT t) (.bl true)) acc) (rowsD []) =
      (cube.filter fun t => decide (t ∈ cs)).foldl (fun acc t => putW acc (kT t) (.bl true)) (rowsD []) := by
    unfold cube
    rw [List.filter_flatMap, List.foldl_flatMap]
  refine three.trans ?_
  rw [fold_rows]
  show rowsD ((asc cs).foldl addT []) = _
  rw [fold_new _ _ (asc_nodup cs) (fun _ _ z => by simp at z), List.nil_append]
theorem given_at {x0 x1 x2 x4 x5 x6 : SV} {G : List Cell} {k : Wk} (cs : List (List Int)) (hne : ∀ t ∈ cs, t ≠ []) (hl : cs.length ≤ 1000) (hk : k.ok ⟨[x0, x1, x2, .non, x4, x5, x6], G⟩) : clL [3] (tgN 3) mYes (putD (mName 3) (mC (.bl true))) k (cs.map tupI) [] ⟨[x0, x1, x2, .non, x4, x5, x6], G⟩ =
    some (rowsD (cs.foldl addT []), ⟨[x0, x1, x2, .non, x4, x5, x6], G⟩) := by
  rw [cl_fold hk (fun _ => true) (fun t acc => putW acc (kT t) (.bl true)) 1 (fun _ _ => putW_len)]
  · rw [List.filter_eq_self.mpr fun _ _ => rfl]
    exact congrArg (fun z => some (z, _)) (fold_rows cs [])
  · intro t ht acc hz
    have tk : tkOf (tupI t) = some (kT t) := tkOf_ints (hne t ht)
    have hz : acc.length < sz := hz
    exact ⟨⟨[x0, x1, x2, .val (tupI t), x4, x5, x6], G⟩, by simp, fun _ => ⟨⟨[x0, x1, x2, .val (tupI t), x4, x5, x6], G⟩, by simp [tk, hz], by simp⟩, fun z => by cases z⟩
  · show 0 + 1 * cs.length ≤ 16777216
    omega
def step3 (gs : List (List Int)) (a b : Nat) (acc : KVs) : KVs := ((List.range 6).filter fun (c : Nat) => decide ([(a : Int), (b : Int), (c : Int)] ∈ gs)).foldl (fun acc (c : Nat) => putW acc (kT [(a : Int), (b : Int), (c : Int)]) (.bl true)) acc
def step2 (gs : List (List Int)) (a : Nat) (acc : KVs) : KVs := (List.range 6).foldl (fun acc (b : Nat) => step3 gs a b acc) acc
theorem fold_len {γ : Type} {g : γ → KVs → KVs} {c : Nat} (hg : ∀ x acc, (g x acc).length ≤ acc.length + c) : ∀ (xs : List γ) (acc : KVs), (xs.foldl (fun a x => g x a) acc).length ≤ acc.length + c * xs.length
  | [], acc => by simp
  | x :: xs, acc => by
    rw [List.foldl_cons, List.length_cons, Nat.mul_succ]
    have := fold_len hg xs (g x acc)
    have := hg x acc
    omega
theorem step3_len (gs : List (List Int)) (a b : Nat) (acc : KVs) : (step3 gs a b acc).length ≤ acc.length + 6 := by
  have h := fold_len (g := fun (c : Nat) acc => putW acc (kT [(a : Int), (b : Int), (c : Int)]) (.bl true)) (c := 1) (fun _ _ => putW_len) ((List.range 6).filter fun (c : Nat) => decide ([(a : Int), (b : Int), (c : Int)] ∈ gs)) acc
  have h2 := List.length_filter_le (fun (c : Nat) => decide ([(a : Int), (b : Int), (c : Int)] ∈ gs)) (List.range 6)
  rw [List.length_range] at h2
  unfold step3
  omega
theorem step2_len (gs : List (List Int)) (a : Nat) (acc : KVs) : (step2 gs a acc).length ≤ acc.length + 36 := by
  have h := fold_len (g := fun b acc => step3 gs a b acc) (c := 6) (fun b acc => step3_len gs a b acc) (List.range 6) acc
  rw [List.length_range] at h
  exact h
theorem rng6 : rngW 0 6 = (List.range 6).map fun (a : Nat) => W.int (a : Int) := by simp [rngW]
theorem lvl3 {x0 x3 : SV} {G : List Cell} (gs : List (List Int)) (a b : Nat) (acc : KVs) (h : acc.length + 6 ≤ sz) :
    clL [6] (tgN 6) (mB (mBin (fIn false) (mTup (mCons (mName 4) (mCons (mName 5) (mCons (mName 6) mNil)))) (mName 1))) (putD (mTup (mCons (mName 4) (mCons (mName 5) (mCons (mName 6) mNil)))) (mC (.bl true))) ⟨rngW 0 6, none⟩ (rngW 0 6) acc
      ⟨[x0, .val (.dF (rowsD gs)), .val (.lst (rngW 0 6)), x3, .val (.int a), .val (.int b), .non], G⟩ = some (step3 gs a b acc, ⟨[x0, .val (.dF (rowsD gs)), .val (.lst (rngW 0 6)), x3, .val (.int a), .val (.int b), .non], G⟩) := by
  generalize hr : rngW 0 6 = R
  have hR : R = (List.range 6).map fun (a : Nat) => W.int (a : Int) := hr ▸ rng6
  have h3 : 3 ≤ sz := by show 3 ≤ 16777216; omega
  have key := cl_fold (s := ⟨[x0, .val (.dF (rowsD gs)), .val (.lst R), x3, .val (.int a), .val (.int b), .non], G⟩) (k := ⟨R, none⟩) (vs := [6]) (t := tgN 6) (tt := mB (mBin (fIn false) (mTup (mCons (mName 4) (mCons (mName 5) (mCons (mName 6) mNil)))) (mName 1))) (body := putD (mTup (mCons (mName 4) (mCons (mName 5) (mCons (mName 6) mNil)))) (mC (.bl true))) (e := fun (c : Nat) => W.int (c : Int))
    (by exact trivial) (fun (c : Nat) => decide ([(a : Int), (b : Int), (c : Int)] ∈ gs)) (fun (c : Nat) acc => putW acc (kT [(a : Int), (b : Int), (c : Int)]) (.bl true)) 1 (fun _ _ => putW_len) (List.range 6) acc (fun c hc acc hz => by
    have hz : acc.length < sz := hz
    have fi : fIn false (.tup [.int a, .int b, .int c]) (.dF (rowsD gs)) = some (.imm (.bl (decide ([(a : Int), (b : Int), (c : Int)] ∈ gs) != false))) := fIn_rows false gs (t := [(a : Int), (b : Int), (c : Int)]) (by simp)
    have tk : tkOf (.tup [.int a, .int b, .int c]) = some (kT [(a : Int), (b : Int), (c : Int)]) := tkOf_ints (t := [(a : Int), (b : Int), (c : Int)]) (by simp)
    refine ⟨⟨[x0, .val (.dF (rowsD gs)), .val (.lst R), x3, .val (.int a), .val (.int b), .val (.int c)], G⟩, by simp [fi, h3], fun _ => ⟨⟨[x0, .val (.dF (rowsD gs)), .val (.lst R), x3, .val (.int a), .val (.int b), .val (.int c)], G⟩, by simp [tk, hz, h3], by simp⟩, fun _ => by simp⟩) (by simpa using h)
  rw [← hR] at key
  exact key
theorem lvl2 {x0 x3 : SV} {G : List Cell} (gs : List (List Int)) (a : Nat) (acc : KVs) (h : acc.length + 36 ≤ sz) :
    clL [5] (tgN 5) mYes (clM [6] (mIter (mName 2)) (tgN 6) (mB (mBin (fIn false) (mTup (mCons (mName 4) (mCons (mName 5) (mCons (mName 6) mNil)))) (mName 1))) (putD (mTup (mCons (mName 4) (mCons (mName 5) (mCons (mName 6) mNil)))) (mC (.bl true)))) ⟨rngW 0 6, none⟩ (rngW 0 6) acc
      ⟨[x0, .val (.dF (rowsD gs)), .val (.lst (rngW 0 6)), x3, .val (.int a), .non, .non], G⟩ = some (step2 gs a acc, ⟨[x0, .val (.dF (rowsD gs)), .val (.lst (rngW 0 6)), x3, .val (.int a), .non, .non], G⟩) := by
  have three := fun (b : Nat) acc h => lvl3 (x0 := x0) (x3 := x3) (G := G) gs a b acc h
  generalize hr : rngW 0 6 = R at three ⊢
  have hR : R = (List.range 6).map fun (a : Nat) => W.int (a : Int) := hr ▸ rng6
  have key := cl_fold (s := ⟨[x0, .val (.dF (rowsD gs)), .val (.lst R), x3, .val (.int a), .non, .non], G⟩) (k := ⟨R, none⟩) (vs := [5]) (t := tgN 5) (tt := mYes) (body := clM [6] (mIter (mName 2)) (tgN 6) (mB (mBin (fIn false) (mTup (mCons (mName 4) (mCons (mName 5) (mCons (mName 6) mNil)))) (mName 1))) (putD (mTup (mCons (mName 4) (mCons (mName 5) (mCons (mName 6) mNil)))) (mC (.bl true))))
    (e := fun (b : Nat) => W.int (b : Int)) (by exact trivial) (fun _ => true) (fun b acc => step3 gs a b acc) 6 (fun b acc => step3_len gs a b acc) (List.range 6) acc (fun b hb acc hz => ⟨⟨[x0, .val (.dF (rowsD gs)), .val (.lst R), x3, .val (.int a), .val (.int b), .non], G⟩, by simp, fun _ => ⟨⟨[x0, .val (.dF (rowsD gs)), .val (.lst R), x3, .val (.int a), .val (.int b), .non], G⟩, by simp [three b acc hz], by simp⟩, fun z => by cases z⟩) (by simpa using h)
  rw [← hR, List.filter_eq_self.mpr fun _ _ => rfl] at key
  exact key
theorem lvl1 {x0 x3 : SV} {G : List Cell} (gs : List (List Int)) :
    clL [4] (tgN 4) mYes (clM [5] (mIter (mName 2)) (tgN 5) mYes (clM [6] (mIter (mName 2)) (tgN 6) (mB (mBin (fIn false) (mTup (mCons (mName 4) (mCons (mName 5) (mCons (mName 6) mNil)))) (mName 1))) (putD (mTup (mCons (mName 4) (mCons (mName 5) (mCons (mName 6) mNil)))) (mC (.bl true))))) ⟨rngW 0 6, none⟩ (rngW 0 6) []
      ⟨[x0, .val (.dF (rowsD gs)), .val (.lst (rngW 0 6)), x3, .non, .non, .non], G⟩ = some (rowsD (asc gs), ⟨[x0, .val (.dF (rowsD gs)), .val (.lst (rngW 0 6)), x3, .non, .non, .non], G⟩) := by
  have two := fun (a : Nat) acc h => lvl2 (x0 := x0) (x3 := x3) (G := G) gs a acc h
  generalize hr : rngW 0 6 = R at two ⊢
  have hR : R = (List.range 6).map fun (a : Nat) => W.int (a : Int) := hr ▸ rng6
  have key := cl_fold (s := ⟨[x0, .val (.dF (rowsD gs)), .val (.lst R), x3, .non, .non, .non], G⟩) (k := ⟨R, none⟩) (vs := [4]) (t := tgN 4) (tt := mYes) (body := clM [5] (mIter (mName 2)) (tgN 5) mYes (clM [6] (mIter (mName 2)) (tgN 6) (mB (mBin (fIn false) (mTup (mCons (mName 4) (mCons (mName 5) (mCons (mName 6) mNil)))) (mName 1))) (putD (mTup (mCons (mName 4) (mCons (mName 5) (mCons (mName 6) mNil)))) (mC (.bl true)))))
    (e := fun (b : Nat) => W.int (b : Int)) (by exact trivial) (fun _ => true) (fun a acc => step2 gs a acc) 36 (fun a acc => step2_len gs a acc) (List.range 6) [] (fun a ha acc hz => ⟨⟨[x0, .val (.dF (rowsD gs)), .val (.lst R), x3, .val (.int a), .non, .non], G⟩, by simp, fun _ => ⟨⟨[x0, .val (.dF (rowsD gs)), .val (.lst R), x3, .val (.int a), .non, .non], G⟩, by simp [two a acc hz], by simp⟩, fun z => by cases z⟩) (by show 0 + 36 * 6 ≤ 16777216; omega)
  rw [← hR, List.filter_eq_self.mpr fun _ _ => rfl] at key
  rw [key]
  exact congrArg (fun z => some (z, _)) (asc_fold gs)
theorem x_ascending (cs : List (List Int)) (hne : ∀ t ∈ cs, t ≠ []) (hl : cs.length ≤ 1000) (G : List Cell) : m_ascending [.lst (cs.map tupI)] G = some (.ok (.val (.dF (rowsD (asc cs)))), G) := by
  unfold m_ascending
  rw [fnM_e]
  have same : asc (cs.foldl addT []) = asc cs := by
    unfold asc
    refine List.filter_congr fun t _ => ?_
    rw [Bool.eq_iff_iff]
    simp [fold_mem]
  have gv := fun x0 x1 x2 x4 x5 x6 (k : Wk) hk => given_at (x0 := x0) (x1 := x1) (x2 := x2) (x4 := x4) (x5 := x5) (x6 := x6) (G := G) (k := k) cs hne hl hk
  rw [← same]
  generalize cs.foldl addT [] = gs at gv
  have rl : Rl 0 6 := rl_nat (n := 6) (by omega)
  simp [b_ascending, gv, rl, lvl1]
theorem noRef_rows : ∀ ts : List (List Int), noRefT (rowsD ts) = true
  | [] => rfl
  | t :: ts => by
    show (noRef (.bl true) && noRefT (rowsD ts)) = true
    rw [noRef_rows ts]
    rfl
end Z
set_option linter.all false
set_option maxRecDepth 100000
set_option maxHeartbeats 1000000
namespace Z
open PySem PySem.Spec PyProof.Rows L2
def Is {α : Type} (a b : α) : Prop := a = b
theorem Is.eq {α : Type} {a b : α} (h : Is a b) : a = b := h
def tripC (n a b : Nat) : List (List Int) := ((List.range n).filter fun (c : Nat) => decide (a ≠ b) && (decide (a ≠ c) && decide (b ≠ c))).map fun (c : Nat) => [(a : Int), (b : Int), (c : Int)]
def tripB (n a : Nat) : List (List Int) := (List.range n).flatMap fun b => tripC n a b
def trip (n : Nat) : List (List Int) := (List.range n).flatMap fun a => tripB n a
theorem trip_six : trip 6 = every := by
  with_unfolding_all decide +kernel
theorem take_succ_range {α : Type} (f : Nat → List α) (i : Nat) : (List.range (i + 1)).flatMap f = (List.range i).flatMap f ++ f i := by
  rw [List.range_succ, List.flatMap_append]
  simp
theorem tripC_len (n a b : Nat) : (tripC n a b).length ≤ n := by
  unfold tripC
  rw [List.length_map]
  exact Nat.le_trans (List.length_filter_le _ _) (by simp)
theorem flat_len {α : Type} {f : Nat → List α} {c : Nat} (h : ∀ i, (f i).length ≤ c) : ∀ n, ((List.range n).flatMap f).length ≤ c * n
  | 0 => by simp
  | n + 1 => by
    rw [take_succ_range, List.length_append, Nat.mul_succ]
    have := flat_len h n
    have := h n
    omega
theorem x_triples (n : Nat) (hn : n ≤ 6) (G : List Cell) : m__law_triples [.int n] G = some (.ok (.own (.lst ((trip n).map tupI))), G) := by
  unfold m__law_triples
  rw [fnM_e]
  have rk : Rk (n : Int) := rk_nat (by omega)
  have h3 : 3 ≤ sz := by show 3 ≤ 16777216; omega
  have small : ∀ {k : Nat}, k ≤ 1000 → k < sz := fun h => by show _ < 16777216; omega
  simp [b__law_triples, rk]
  generalize hF : forL _ _ _ _ = F
  obtain ⟨s', rfl, f1, v2, v3, v4, rfl, hf1⟩ := forL_at hF (fun i s => ∃ f1 v2 v3 v4, s = ⟨[.val (.int n), .own (.lst (f1.map tupI)), v2, v3, v4], G⟩ ∧ Is f1 ((List.range i).flatMap fun a => tripB n a)) ⟨[], .non, .non, .non, rfl, by simp [Is]⟩ (by
    rintro i hi s ⟨f1, v2, v3, v4, rfl, hf1⟩
    have hi : i < n := by simpa [rngW] using hi
    have l1 : f1.length ≤ 36 * i := by
      rw [hf1.eq]
      exact flat_len (fun a => Nat.le_trans (flat_len (fun b => tripC_len n a b) n) (Nat.mul_le_mul hn hn)) i
    simp [rngW, rk]
    generalize hF2 : forL _ _ _ _ = F2
    obtain ⟨s', rfl, f2, v3, v4, rfl, hf2⟩ := forL_at hF2 (fun j s => ∃ f2 v3 v4, s = ⟨[.val (.int n), .own (.lst (f2.map tupI)), .val (.int i), v3, v4], G⟩ ∧ Is f2 (f1 ++ (List.range j).flatMap fun b => tripC n i b)) ⟨f1, v3, v4, rfl, by simp [Is]⟩ (by
      rintro j hj s ⟨f2, v3, v4, rfl, hf2⟩
      have hj : j < n := by simpa [rngW] using hj
      have l2 : f2.length ≤ 36 * i + 6 * j := by
        rw [hf2.eq, List.length_append]
        have := flat_len (f := fun b => tripC n i b) (fun b => Nat.le_trans (tripC_len n i b) hn) j
        omega
      simp [rngW, rk]
      generalize hF3 : forL _ _ _ _ = F3
      obtain ⟨s', rfl, f3, v4, rfl, hf3⟩ := forL_at hF3 (fun k s => ∃ f3 v4, s = ⟨[.val (.int n), .own (.lst (f3.map tupI)), .val (.int i), .val (.int j), v4], G⟩ ∧ Is f3 (f2 ++ ((List.range k).filter fun (c : Nat) => decide (i ≠ j) && (decide (i ≠ c) && decide (j ≠ c))).map fun (c : Nat) => [(i : Int), (j : Int), (c : Int)])) ⟨f2, v4, rfl, by simp [Is]⟩ (by
        rintro k hk s ⟨f3, v4, rfl, hf3⟩
        have hk : k < n := by simpa [rngW] using hk
        have l3 : f3.length ≤ 36 * i + 6 * j + k := by
          rw [hf3.eq, List.length_append, List.length_map]
          have := List.length_filter_le (fun (c : Nat) => decide (i ≠ j) && (decide (i ≠ c) && decide (j ≠ c))) (List.range k)
          rw [List.length_range] at this
          omega
        have lz : f3.length < sz := small (by omega)
        have nI : ∀ {x y : Nat}, ¬ x = y → ¬ (x : Int) = y := fun h => by omega
        by_cases c1 : i = j
        · subst c1
          exact ⟨⟨[.val (.int n), .own (.lst (f3.map tupI)), .val (.int i), .val (.int i), .val (.int k)], G⟩, by simp [rngW, fNeD_i], f3, _, rfl, by rw [hf3.eq, List.range_succ, List.filter_append]; simp [Is]⟩
        · by_cases c2 : i = k
          · subst c2
            exact ⟨⟨[.val (.int n), .own (.lst (f3.map tupI)), .val (.int i), .val (.int j), .val (.int i)], G⟩, by simp [rngW, fNeD_i, nI c1], f3, _, rfl, by rw [hf3.eq, List.range_succ, List.filter_append]; simp [Is]⟩
          · by_cases c3 : j = k
            · subst c3
              exact ⟨⟨[.val (.int n), .own (.lst (f3.map tupI)), .val (.int i), .val (.int j), .val (.int j)], G⟩, by simp [rngW, fNeD_i, nI c1], f3, _, rfl, by rw [hf3.eq, List.range_succ, List.filter_append]; simp [Is]⟩
            · exact ⟨⟨[.val (.int n), .own (.lst ((f3 ++ [[(i : Int), (j : Int), (k : Int)]]).map tupI)), .val (.int i), .val (.int j), .val (.int k)], G⟩, by simp [rngW, fNeD_i, nI c1, nI c2, nI c3, fAppend, lz, h3, tupI], f3 ++ [[(i : Int), (j : Int), (k : Int)]], _, rfl, by rw [hf3.eq, List.range_succ, List.filter_append]; simp [Is, c1, c2, c3]⟩)
      refine ⟨_, rfl, f3, ⟨_, _, rfl⟩, ?_⟩
      rw [hf3.eq, hf2.eq, take_succ_range, List.append_assoc]
      simp [tripC, Is])
    refine ⟨_, rfl, f2, ⟨_, _, _, rfl⟩, ?_⟩
    rw [hf2.eq, hf1.eq, take_succ_range]
    simp [tripB, Is])
  rw [hf1.eq]
  simp [trip, rngW]
theorem fAdd_lists {a b : List W} (h : a.length + b.length ≤ sz) : fAdd (.lst a) (.lst b) = some (.newl (a ++ b)) := by
  unfold fAdd orf
  rw [show fI (fun i j => i + j) (.lst a) (.lst b) = none from rfl]
  simp only []
  rw [show fAddS (.lst a) (.lst b) = none from rfl]
  simp only []
  rw [show fAddL (.lst a) (.lst b) = some (.newl (a ++ b)) from by unfold fAddL; simp [h]]
theorem repW_one (w : W) : ∀ n, repW [w] n = List.replicate n w
  | 0 => rfl
  | n + 1 => by
    show (List.replicate (n + 1) [w]).flatten = _
    rw [List.replicate_succ, List.flatten_cons, List.replicate_succ]
    exact congrArg (List.cons w) (repW_one w n)
theorem fRepL_lst (ws : List W) (k : Int) (h : -(2 ^ 63) ≤ k ∧ k < 2 ^ 63 ∧ ws.length * k.toNat ≤ sz) : fRepL (.lst ws) (.int k) = some (.newl (repW ws k.toNat)) := by
  rw [fRepL]
  exact if_pos h
theorem fMul_rep (ws : List W) (k : Int) : fMul (.lst ws) (.int k) = fRepL (.lst ws) (.int k) := rfl
theorem mul15 (w : W) : fMul (.lst [w]) (.int 15) = some (.newl (List.replicate 15 w)) := by
  rw [fMul_rep, fRepL_lst _ _ ⟨by decide, by decide, by show 1 * 15 ≤ 16777216; omega⟩]
  exact congrArg (fun z => some (OR.newl z)) (repW_one w 15)
noncomputable def cBody (last : Mo Fl) : Mo Fl := mSeq (mAsg 6 (mLst (mCons (mBin fMod (mCB fInt1 (mCons (mBin fIx (mName 3) (mC (.int 1))) mNil)) (mCB fLen (mCons (mName 2) mNil))) (mCons (mBin fMod (mCB fInt1 (mCons (mBin fIx (mName 3) (mC (.int 2))) mNil)) (mCB fLen (mCons (mName 2) mNil))) mNil)))) (mSeq (mAsg 7 (mBin fEqD (mBin fMod (mCB fInt1 (mCons (mBin fShr (mBin fIx (mName 3) (mBin fAdd (mC (.int 3)) (mBin fDiv (mName 5) (mC (.int 8))))) (mBin fMod (mCB fInt1 (mCons (mName 5) mNil)) (mC (.int 8)))) mNil)) (mC (.int 2))) (mC (.int 1)))) (mSeq (mIf (mOr (mB (mBin fEqD (mBin fIx (mName 3) (mC (.int 0))) (mC (.int 1)))) (mB (mBin fEqD (mBin fIx (mName 3) (mC (.int 0))) (mC (.int 2))))) (mAsg 7 (mBin fEqD (mBin fIx (mName 3) (mC (.int 0))) (mC (.int 1)))) mNext) (mSeq (mIf (mB (mBin fEqD (mBin fIx (mName 3) (mC (.int 0))) (mC (.int 3)))) (mAsg 7 (mBin fNeD (mName 5) (mBin fIx (mName 6) (mC (.int 0))))) mNext) (mSeq (mIf (mB (mBin fEqD (mBin fIx (mName 3) (mC (.int 0))) (mC (.int 4)))) (mAsg 7 (mBin (fIn true) (mName 5) (mName 6))) mNext) last))))
theorem x_counts (c : Int) (G : List Cell) : ∃ p : List Int → Bool, m__law_counts [.int c, .int 6] G = some (.ok (.own (.lst ((every.filter p).map tupI))), G) := by
  obtain ⟨xs, ex, hl, hb⟩ := x_numbers c 2 ([6, 120, 120] ++ List.replicate 15 256) (by decide +kernel) (by decide) G
  have tr : m__law_triples [.int 6] G = _ := x_triples 6 (by omega) G
  rw [trip_six] at tr
  have c15 : CMul 1 15 := by decide
  simp only [List.map_append, List.map_replicate, List.map_cons, List.map_nil] at ex
  have rk : Rk (every.length : Int) := by rw [every_length]; exact rk_nat (n := 120) (by omega)
  unfold m__law_counts
  rw [fnM_e]
  have zs : ∀ {k : Nat}, k ≤ 1000 → k ≤ sz := fun h => by show _ ≤ 16777216; omega
  have mul : fMul (.lst [.int 256]) (.int 15) = some (.newl (List.replicate 15 (.int 256))) := mul15 _
  have add : fAdd (.lst [.int 6, .int 120, .int 120]) (.lst (List.replicate 15 (.int 256))) = _ := fAdd_lists (by show 18 ≤ 16777216; omega)
  generalize hL : List.replicate 15 (W.int 256) = L at mul add ex
  simp only [List.cons_append, List.nil_append] at add ex
  simp [b__law_counts, tr, rk, zs, mul, add, ex]
  have len : xs.length = 18 := hl
  obtain ⟨n0, n1, n2, rest, rfl⟩ : ∃ n0 n1 n2 rest, xs = n0 :: n1 :: n2 :: rest := by
    match xs, len with
    | a :: b :: c :: r, _ => exact ⟨a, b, c, r, rfl⟩
  have len : rest.length = 15 := by simpa using len
  generalize hF : forL _ _ _ _ = F
  obtain ⟨s', rfl, p, f1, v5, v6, v7, rfl, hf1⟩ := forL_at hF (fun i s => ∃ (p : List Int → Bool) (f1 : List (List Int)) (v5 v6 v7 : SV), s = ⟨[.val (.int c), .val (.int 6), .own (.lst (every.map tupI)), .own (.lst ((n0 :: n1 :: n2 :: rest).map W.int)), .own (.lst (f1.map tupI)), v5, v6, v7], G⟩ ∧ Is f1 ((every.take i).filter p)) ⟨fun _ => true, [], .non, .non, .non, rfl, by simp [Is]⟩ (by
    rintro i hi s ⟨p, f1, v5, v6, v7, rfl, hf1⟩
    have hi0 : i < every.length := by simpa [rngW] using hi
    have hi' : i < 120 := by rw [← every_length]; exact hi0
    have hi : i < every.length := hi0
    have l8 : Nat.log2 8 < 9000 := by decide
    have hk : i / 8 < rest.length := by omega
    have ek : atI (.int n0 :: .int n1 :: .int n2 :: rest.map W.int) (3 + (i : Int) / 8) = some (.int rest[i / 8]) := by
      have : (3 + (i : Int) / 8) = ((i / 8 + 3 : Nat) : Int) := by omega
      rw [this]
      exact atI_nat (by simp [hk])
    have e0 : atI (.int n0 :: .int n1 :: .int n2 :: rest.map W.int) 0 = some (.int n0) := atI_nat (j := 0) rfl
    have e1 : atI (.int n0 :: .int n1 :: .int n2 :: rest.map W.int) 1 = some (.int n1) := atI_nat (j := 1) rfl
    have e2 : atI (.int n0 :: .int n1 :: .int n2 :: rest.map W.int) 2 = some (.int n2) := atI_nat (j := 2) rfl
    have o0 : atI [W.int (n1 % 120), W.int (n2 % 120)] 0 = some (.int (n1 % 120)) := atI_nat (j := 0) rfl
    have ev : atI (every.map tupI) (i : Int) = some (tupI every[i]) := atI_nat (by rw [List.getElem?_map, List.getElem?_eq_getElem hi]; rfl)
    have m8 : (0 : Int) ≤ (i : Int) % 8 := by omega
    have fin : fIn true (.int (i : Int)) (.lst [W.int (n1 % 120), W.int (n2 % 120)]) = some (.imm (.bl (decide ((i : Int) ∈ [n1 % 120, n2 % 120]) != true))) := fIn_lI true (i : Int) [n1 % 120, n2 % 120]
    have small : f1.length < sz := by
      rw [hf1.eq]
      refine Nat.lt_of_le_of_lt (Nat.le_trans (List.length_filter_le _ _) (List.length_take_le _ _)) ?_
      show i < 16777216
      omega
    have nx : every[i] ∉ every.take i := fun m => by
      have nd := every_nodup
      rw [← List.take_append_drop i every, List.nodup_append] at nd
      exact nd.2.2 _ m _ (by rw [List.drop_eq_getElem_cons hi]; exact List.mem_cons_self ..) rfl
    have step : ∀ b : Bool, (every.take (i + 1)).filter (fun t => if t = every[i] then b else p t) = f1 ++ (if b then [every[i]] else []) := fun b => by
      rw [List.take_succ_eq_append_getElem hi, List.filter_append, hf1.eq]
      congr 1
      · refine List.filter_congr fun t m => ?_
        have : t ≠ every[i] := fun z => nx (z ▸ m)
        rw [if_neg this]
      · rw [List.filter_cons, if_pos rfl]
        cases b <;> rfl
    have run : ∀ last : Mo Fl, ∃ (b : Bool) (v6' : SV), cBody last ⟨[.val (.int c), .val (.int 6), .own (.lst (every.map tupI)), .own (.lst (.int n0 :: .int n1 :: .int n2 :: rest.map W.int)), .own (.lst (f1.map tupI)), .val (.int i), v6, v7], G⟩ =
        last ⟨[.val (.int c), .val (.int 6), .own (.lst (every.map tupI)), .own (.lst (.int n0 :: .int n1 :: .int n2 :: rest.map W.int)), .own (.lst (f1.map tupI)), .val (.int i), v6', .val (.bl b)], G⟩ := fun last => by
      by_cases z1 : n0 = 1
      · subst z1
        exact ⟨true, .own (.lst [.int (n1 % 120), .int (n2 % 120)]), by simp [cBody, e0, e1, e2, ek, o0, every_length, zs, fEqD_i, CDivW, l8, m8]⟩
      · by_cases z2 : n0 = 2
        · subst z2
          exact ⟨false, .own (.lst [.int (n1 % 120), .int (n2 % 120)]), by simp [cBody, e0, e1, e2, ek, o0, every_length, zs, fEqD_i, CDivW, l8, m8]⟩
        · by_cases z3 : n0 = 3
          · subst z3
            exact ⟨decide ((i : Int) ≠ n1 % 120), .own (.lst [.int (n1 % 120), .int (n2 % 120)]), by simp [cBody, e0, e1, e2, ek, o0, every_length, zs, fEqD_i, fNeD_i, CDivW, l8, m8]⟩
          · by_cases z4 : n0 = 4
            · subst z4
              exact ⟨decide ((i : Int) ∈ [n1 % 120, n2 % 120]) != true, .own (.lst [.int (n1 % 120), .int (n2 % 120)]), by simp [cBody, e0, e1, e2, ek, o0, every_length, zs, fEqD_i, fin, CDivW, l8, m8]⟩
            · exact ⟨decide (rest[i / 8] / 2 ^ ((i : Int) % 8).toNat % 2 = 1), .own (.lst [.int (n1 % 120), .int (n2 % 120)]), by simp [cBody, e0, e1, e2, ek, o0, every_length, zs, fEqD_i, CDivW, l8, m8, z1, z2, z3, z4]⟩
    obtain ⟨b, v6', hrun⟩ := run (mIf (mTru (mName 7)) (mDrop (mMut .lst fAppend (mName 4) (mCons (mBin fIx (mName 2) (mName 5)) mNil))) mNext)
    refine ⟨⟨[.val (.int c), .val (.int 6), .own (.lst (every.map tupI)), .own (.lst ((n0 :: n1 :: n2 :: rest).map W.int)), .own (.lst ((f1 ++ (if b then [every[i]] else [])).map tupI)), .val (.int i), v6', .val (.bl b)], G⟩, ?_, fun t => if t = every[i] then b else p t, f1 ++ (if b then [every[i]] else []), _, _, _, rfl, (step b).symm⟩
    rw [show (rngW 0 every.length)[i] = W.int i from by simp [rngW]]
    show (bnd (tgN 5 (.int i)) fun _ => cBody _) _ = _
    have t5 : tgN 5 (.int i) ⟨[.val (.int c), .val (.int 6), .own (.lst (every.map tupI)), .own (.lst ((n0 :: n1 :: n2 :: rest).map W.int)), .own (.lst (f1.map tupI)), v5, v6, v7], G⟩ = some (.ok (), ⟨[.val (.int c), .val (.int 6), .own (.lst (every.map tupI)), .own (.lst ((n0 :: n1 :: n2 :: rest).map W.int)), .own (.lst (f1.map tupI)), .val (.int i), v6, v7], G⟩) := by simp
    unfold bnd
    rw [t5]
    refine hrun.trans ?_
    cases b with
    | true => simp [ev, fAppend, small, show truW (.bl true) = some true from rfl]
    | false => simp [show truW (.bl false) = some false from rfl])
  rw [hf1.eq]
  refine ⟨p, ?_⟩
  simp [rngW]
end Z
set_option linter.all false
set_option maxRecDepth 100000
set_option maxHeartbeats 1000000
namespace Z
open PySem PySem.Spec PyProof.Rows L2
def bkC (ts : List (List Int)) : Cell := .ins "Book" [("rows", .dF (rowsD ts))]
@[simp high] theorem bkC_toW {ts : List (List Int)} : (bkC ts).toW = book ts := rfl
def BkR (G : List Cell) (w : W) (ts : List (List Int)) : Prop := w = book ts ∨ ∃ n, w = .ref n ∧ G[n]? = some (bkC ts)
theorem BkR.val {G : List Cell} {ts : List (List Int)} : BkR G (book ts) ts := .inl rfl
theorem BkR.at {G : List Cell} {n : Nat} {ts : List (List Int)} (h : G[n]? = some (bkC ts)) : BkR G (.ref n) ts := .inr ⟨n, rfl, h⟩
section
variable {G : List Cell} {w u : W} {ts us : List (List Int)} {xs : List W}
theorem BkR.deref (h : BkR G w ts) (r : List SV) : derefW ⟨r, G⟩ w = some (book ts) := by
  rcases h with rfl | ⟨n, rfl, h⟩
  · rfl
  · show (G[n]?).map Cell.toW = _
    rw [h]
    rfl
theorem BkR.look (h : BkR G w ts) (r : List SV) : look (.val w) ⟨r, G⟩ = some (.ok (book ts), ⟨r, G⟩) := by
  show (derefW ⟨r, G⟩ w).map _ = _
  rw [h.deref]
  rfl
theorem BkR.chk1 (h : BkR G w ts) (r : List SV) : chk1 "Book" (w :: xs) ⟨r, G⟩ = some (.ok (), ⟨r, G⟩) := by
  rw [chk1_e, h.deref]
  rfl
theorem BkR.chkm (h : BkR G w ts) (r : List SV) (mn : Str) (hm : mn ≠ "rows") : chk "Book" mn w ⟨r, G⟩ = some (.ok (), ⟨r, G⟩) := by
  have lk : List.lookup mn [(("rows" : Str), W.dF (rowsD ts))] = none := by
    have e : (mn == ("rows" : Str)) = false := beq_false_of_ne hm
    simp [List.lookup, e]
  rw [chk_e, h.deref]
  show (if ("Book" : Str) = "Book" ∧ _ then _ else _) = _
  rw [if_pos ⟨rfl, lk⟩]
theorem BkR.own (h : BkR G w ts) (k : BkR G u us) (r : List SV) : chkO "Book" [.own "Book"] [w, u] ⟨r, G⟩ = some (.ok (), ⟨r, G⟩) := by
  rw [chkO_e, h.deref, k.deref]
  rfl
theorem BkR.push (h : BkR G w ts) (c : Cell) : BkR (G ++ [c]) w ts := by
  rcases h with rfl | ⟨n, rfl, h⟩
  · exact .inl rfl
  · exact .inr ⟨n, rfl, by rw [List.getElem?_append_left (get_lt h)]; exact h⟩
end
structure Cts (ts : List (List Int)) : Prop where
  sub : ∀ t ∈ ts, t ∈ every
  len : ts.length ≤ 1000
theorem Cts.ne {ts : List (List Int)} (h : Cts ts) : ∀ t ∈ ts, t ≠ [] := fun t m => every_ne (h.sub t m)
theorem Cts.sz {ts : List (List Int)} (h : Cts ts) : ts.length ≤ sz := by
  have := h.len
  show _ ≤ 16777216
  omega
theorem Cts.sz3 {ts : List (List Int)} (h : Cts ts) : ∀ t ∈ ts, t.length ≤ Z.sz := fun t m => by
  obtain ⟨a, b, c, rfl, _⟩ := every_mem (h.sub t m)
  show 3 ≤ 16777216
  omega
theorem cts_filter (p : List Int → Bool) : Cts (every.filter p) := ⟨fun t m => (List.mem_filter.mp m).1, by
  have := List.length_filter_le p every
  rw [every_length] at this
  omega⟩
theorem cts_every : Cts every := ⟨fun _ m => m, by rw [every_length]; omega⟩
theorem cts_nil : Cts [] := ⟨fun _ m => by simp at m, by simp⟩
theorem asc_of {l : List (List Int)} {p : List Int → Bool} (h : ∀ t, t ∈ l ↔ t ∈ every ∧ p t = true) : asc l = every.filter p := by
  unfold asc every
  rw [List.filter_filter]
  refine List.filter_congr fun t m => ?_
  rw [Bool.eq_iff_iff]
  simp only [decide_eq_true_eq, Bool.and_eq_true]
  rw [h t, every, List.mem_filter]
  constructor
  · rintro ⟨⟨_, a⟩, b⟩; exact ⟨b, a⟩
  · rintro ⟨a, b⟩; exact ⟨⟨m, b⟩, a⟩
theorem every_all : every.filter (fun _ => true) = every := List.filter_eq_self.mpr fun _ _ => rfl
def SeqR (G : List Cell) (R : W) (ws : List W) : Prop := R = .lst ws ∨ R = .tup ws ∨ ∃ m, R = .ref m ∧ G[m]? = some (.lst ws)
theorem SeqR.use {G : List Cell} {R : W} {ws : List W} (h : SeqR G R ws) : ∃ o, (∀ r, walkOf ⟨r, G⟩ R = some ⟨ws, o⟩) ∧ (∀ r, Wk.ok ⟨ws, o⟩ ⟨r, G⟩) := by
  rcases h with rfl | rfl | ⟨n, rfl, h⟩
  · exact ⟨none, fun _ => rfl, fun _ => trivial⟩
  · exact ⟨none, fun _ => rfl, fun _ => trivial⟩
  · exact ⟨some n, fun _ => by simp [h], fun _ => h⟩
theorem xr_ascending {R : W} (cs : List (List Int)) (hne : ∀ t ∈ cs, t ≠ []) (hl : cs.length ≤ 1000) (G : List Cell) (hR : SeqR G R (cs.map tupI)) : m_ascending [R] G = some (.ok (.val (.dF (rowsD (asc cs)))), G) := by
  unfold m_ascending
  rw [fnM_e]
  have same : asc (cs.foldl addT []) = asc cs := by
    unfold asc
    refine List.filter_congr fun t _ => ?_
    rw [Bool.eq_iff_iff]
    simp [fold_mem]
  obtain ⟨o, k1, k2⟩ := hR.use
  have gv := fun x0 x1 x2 x4 x5 x6 => given_at (x0 := x0) (x1 := x1) (x2 := x2) (x4 := x4) (x5 := x5) (x6 := x6) (G := G) (k := ⟨cs.map tupI, o⟩) cs hne hl (k2 _)
  rw [← same]
  generalize cs.foldl addT [] = gs at gv
  have rl : Rl 0 6 := rl_nat (n := 6) (by omega)
  simp [b_ascending, k1, gv, rl, lvl1]
theorem xr_init {R : W} (cs : List (List Int)) (h : ∀ t ∈ cs, t ∈ every) (hl : cs.length ≤ 1000) (n : Nat) (G : List Cell) (hR : SeqR G R (cs.map tupI)) (hn : G[n]? = some (.ins "Book" [])) : m_Book___init__ [.ref n, R] G = some (.ok (.val .non), G.set n (bkC (asc cs))) := by
  unfold m_Book___init__
  rw [fnM_e]
  obtain ⟨o, k1, k2⟩ := hR.use
  simp [b_Book___init__, k1]
  generalize hF : forL _ _ _ _ = F
  obtain ⟨s', rfl, v, rfl⟩ := forL_atK hF (fun i s => ∃ v, s = ⟨[.val (.ref n), .val R, v], G⟩) (by rintro i s ⟨v, rfl⟩; exact k2 _) ⟨_, rfl⟩ (by
    rintro i hi s ⟨v, rfl⟩
    have hi' : i < cs.length := by simpa using hi
    exact ⟨⟨[.val (.ref n), .val R, .val (tupI cs[i])], G⟩, by simp [x_is_count (h cs[i] (List.getElem_mem hi'))], _, rfl⟩)
  simp [xr_ascending cs (fun t ht => every_ne (h t ht)) hl G hR, hn, fn_rows]
  rfl
theorem SeqR.push {G : List Cell} {R : W} {ws : List W} (h : SeqR G R ws) (c : Cell) : SeqR (G ++ [c]) R ws := by
  rcases h with rfl | rfl | ⟨n, rfl, h⟩
  · exact .inl rfl
  · exact .inr (.inl rfl)
  · exact .inr (.inr ⟨n, rfl, by rw [List.getElem?_append_left (get_lt h)]; exact h⟩)
theorem xr_make {r : List SV} {G : List Cell} {R : W} (cs : List (List Int)) (c : Cts cs) (hR : SeqR G R (cs.map tupI)) : makeG "Book" m_Book___init__ [R] ⟨r, G⟩ = some (.ok (.own (bkC (asc cs))), ⟨r, G⟩) := by
  have e := xr_init cs c.sub c.len G.length (G ++ [.ins "Book" []]) (hR.push _) (by simp)
  unfold makeG
  simp only []
  rw [e]
  simp [bkC, Cell.noRef, noRefF, noRef, noRef_rows]
theorem asc_bits {l : List (List Int)} {q : List Int → Bool} (h : ∀ t ∈ every, (decide (t ∈ l)) = q t) (s : ∀ t ∈ l, t ∈ every) : asc l = every.filter q := asc_of fun t => by
  constructor
  · intro m
    have e := s t m
    exact ⟨e, by rw [← h t e]; simpa using m⟩
  · rintro ⟨e, z⟩
    rw [← h t e] at z
    simpa using z
section
variable (p0 p1 : List Int → Bool)
theorem f_and : (every.filter p0).filter p1 = every.filter fun t => p0 t && p1 t := by
  rw [List.filter_filter]
  exact List.filter_congr fun t _ => by cases p0 t <;> cases p1 t <;> rfl
theorem dec_mem {t : List Int} (m : t ∈ every) : decide (t ∈ every.filter p0) = p0 t := by
  simp [List.mem_filter, m]
theorem flt_not : ((every.filter p0).filter fun t => !decide (t ∈ every.filter p1)) = every.filter fun t => p0 t && !p1 t := by
  rw [← f_and p0 fun t => !p1 t]
  exact List.filter_congr fun t m => by rw [dec_mem p1 (List.mem_filter.mp m).1]
theorem asc_or : asc (every.filter p0 ++ every.filter p1) = every.filter fun t => p0 t || p1 t :=
  asc_bits (fun t m => by simp [List.mem_filter, m]) fun t m => (List.mem_append.mp m).elim (fun z => (List.mem_filter.mp z).1) fun z => (List.mem_filter.mp z).1
theorem fall_nil : every.filter (fun _ => false) = [] := List.filter_eq_nil_iff.mpr fun _ _ => by simp
end
section
variable {G : List Cell} {w u : W} {ts us : List (List Int)}
theorem xr_len (h : BkR G w ts) : m_Book___len__ [w] G = some (.ok (.val (.int ts.length)), G) := by
  unfold m_Book___len__
  rw [fnM_e]
  have L := h.look
  simp [b_Book___len__, L]
theorem xr_same (h : BkR G w ts) (c : Cts ts) : m__law_same_book [w, .lst (ts.map tupI)] G = some (.ok (.val (.bl true)), G) := by
  unfold m__law_same_book
  rw [fnM_e]
  have hz : ts.length ≤ Z.sz := c.sz
  have lk : Lk (ts.length : Int) := lk_nat (by have := c.len; omega)
  have i1 : (ts.length : Int) ≤ (Z.sz : Nat) := by exact_mod_cast hz
  have D := h.deref
  have C := fun r xs => h.chk1 (xs := xs) r
  simp [b__law_same_book, xr_len h, lk, x_is_int, fNeD_same, hz, x_same ts c.len c.sz3, D, C]
theorem putFW_rows {a b : W} : putFW ("rows" : Str) b [(("rows" : Str), a)] = [(("rows" : Str), b)] := rfl
theorem rowsD_keysT : (rowsD ts).map (fun p => keyW p.1) = ts.map tupI := rowsD_keys ts
theorem lc_rows {st : SV → S} {i : Nat} {tt : Mo Bool} {kk : Wk} (q : List Int → Bool) (ts : List (List Int)) (hz : ts.length ≤ Z.sz) (hk : kk.ok (st .non)) (ht : ∀ v, tgN i v (st .non) = some (.ok (), st (.val v))) (hw : ∀ v, wipeS [i] (st v) = st .non)
    (h1 : ∀ t ∈ ts, tt (st (.val (tupI t))) = some (.ok (q t), st (.val (tupI t)))) (he : ∀ v, (bnd (mName i) fun y => freeze (settle y)) (st (.val v)) = some (.ok v, st (.val v))) :
    lcL [i] (tgN i) tt (mName i) kk (ts.map tupI) [] (st .non) = some (.ok (.own (.lst ((ts.filter q).map tupI))), st .non) := by
  have key := lc_pure (s := st .non) (k := kk) (vs := [i]) (t := tgN i) (tt := tt) (me := mName i) (e := tupI) hk q tupI ts [] (fun t m => ⟨st (.val (tupI t)), by rw [bnd_at (ht _)]; exact h1 t m, fun _ => ⟨st (.val (tupI t)), he _, hw _⟩, fun _ => hw _⟩) (by simpa using hz)
  rw [List.nil_append] at key
  exact key
theorem mem_every (p : List Int → Bool) (neg : Bool) {t : List Int} (m : t ∈ every) : fIn neg (tupI t) (.lst ((every.filter p).map tupI)) = some (.imm (.bl (p t != neg))) := by
  rw [fIn_lst emb_row (by decide)]
  simp [List.mem_filter, m]
theorem xr_ior {n : Nat} (h : G[n]? = some (bkC ts)) (k : BkR G u us) (c : Cts ts) (d : Cts us) (hl : ts.length + us.length ≤ 1000) : m_Book___ior__ [.ref n, u] G = some (.ok (.val (.ref n)), G.set n (bkC (asc (ts ++ us)))) := by
  unfold m_Book___ior__
  rw [fnM_e]
  have L := (BkR.at h).look
  have L' := k.look
  have tb : tabAt ti_Book (.own "Book") = some true := by decide +kernel
  have ad : fAdd (.lst (ts.map tupI)) (.lst (us.map tupI)) = some (.newl ((ts ++ us).map tupI)) := by
    rw [fAdd_lists (by simp; show _ ≤ 16777216; omega), List.map_append]
  have as := x_ascending (ts ++ us) (fun t m => (List.mem_append.mp m).elim (c.ne t) (d.ne t)) (by simpa using hl) G
  rw [List.map_append] at ad as
  generalize asc (ts ++ us) = A at *
  have h' : G[n]? = some (.ins "Book" [("rows", .dF (rowsD ts))]) := h
  have fr : ("Book" : Str) ∈ fn_rows := by simp [fn_rows]
  simp [b_Book___ior__, L, L', tb, rowsD_keysT, ad, as, h', putFW_rows, fr]
  rfl
theorem cl_rows {st : SV → S} {i : Nat} {tt : Mo Bool} {kk : Wk} (q : List Int → Bool) (ts : List (List Int)) (nd : ts.Nodup) (c : Cts ts) (hk : kk.ok (st .non)) (ht : ∀ v, tgN i v (st .non) = some (.ok (), st (.val v))) (hw : ∀ v, wipeS [i] (st v) = st .non)
    (h1 : ∀ t ∈ ts, tt (st (.val (tupI t))) = some (.ok (q t), st (.val (tupI t)))) (he : ∀ t ∈ ts, ∀ acc : KVs, acc.length < Z.sz → putD (mName i) (mC (.bl true)) acc (st (.val (tupI t))) = some (putW acc (kT t) (.bl true), st (.val (tupI t)))) :
    clL [i] (tgN i) tt (putD (mName i) (mC (.bl true))) kk (ts.map tupI) [] (st .non) = some (rowsD (ts.filter q), st .non) := by
  rw [cl_fold hk q (fun t acc => putW acc (kT t) (.bl true)) 1 (fun _ _ => putW_len)]
  · have e := fold_rows (ts.filter q) []
    rw [fold_new _ _ (nd.filter q) (fun _ _ z => by simp at z), List.nil_append] at e
    exact congrArg (fun z => some (z, _)) e
  · exact fun t m acc hz => ⟨st (.val (tupI t)), by rw [bnd_at (ht _)]; exact h1 t m, fun _ => ⟨st (.val (tupI t)), he t m acc hz, hw _⟩, fun _ => hw _⟩
  · have := c.len
    show 0 + 1 * ts.length ≤ 16777216
    omega
theorem xr_isub {n : Nat} (h : G[n]? = some (bkC ts)) (k : BkR G u us) (c : Cts ts) (nd : ts.Nodup) : m_Book___isub__ [.ref n, u] G = some (.ok (.val (.ref n)), G.set n (bkC (ts.filter fun t => !decide (t ∈ us)))) := by
  unfold m_Book___isub__
  rw [fnM_e]
  have L := (BkR.at h).look
  have L' := k.look
  have tb : tabAt ti_Book (.own "Book") = some true := by decide +kernel
  have tk : ∀ t ∈ ts, tkOf (tupI t) = some (kT t) := fun t m => tkOf_ints (c.ne t m)
  have cl := cl_rows (kk := ⟨ts.map tupI, none⟩) (st := fun v => ⟨[.val (.ref n), .val u, v], G⟩) (i := 2) (tt := mB (mBin (fIn true) (mName 2) (mUn (fFld fn_rows "rows") (mName 1)))) (fun t => !decide (t ∈ us)) ts nd c trivial (by simp) (by simp) (by intro t m; simp [L', fIn_rowsT true us (c.ne t m)]) (by intro t m acc hz; simp [tk t m, hz])
  generalize (ts.filter fun t => !decide (t ∈ us)) = A at *
  have h' : G[n]? = some (.ins "Book" [("rows", .dF (rowsD ts))]) := h
  have fr : ("Book" : Str) ∈ fn_rows := by simp [fn_rows]
  simp [b_Book___isub__, L, L', tb, rowsD_keysT, cl, h', putFW_rows, fr]
  rfl
end
end Z
set_option linter.all false
set_option maxRecDepth 100000
namespace Z
open PySem PySem.Spec PyProof.Rows L2
def lay (rs : List (List Int)) : W := .obj "Layout" [("rows", .lst (rs.map tupI)), ("masks", .lst (rs.map fun xs => W.int (mask xs)))]
@[simp] theorem lk_rows {a b : W} : List.lookup ("rows" : Str) [("rows", a), ("masks", b)] = some a := rfl
@[simp] theorem lk_masks {a b : W} : List.lookup ("masks" : Str) [("rows", a), ("masks", b)] = some b := rfl
section
variable {r : List SV} {G : List Cell} {s : S} {rs : List (List Int)} {xs : List W}
@[simp] theorem look_lay : look (.val (lay rs)) ⟨r, G⟩ = some (.ok (lay rs), ⟨r, G⟩) := rfl
@[simp] theorem deref_lay : derefW s (lay rs) = some (lay rs) := rfl
@[simp] theorem fFld_lay : fFld fn_rows "rows" (lay rs) = some (.imm (.lst (rs.map tupI))) := by simp [lay, fn_rows]
@[simp] theorem fFld_layM : fFld fn_masks "masks" (lay rs) = some (.imm (.lst (rs.map fun xs => W.int (mask xs)))) := by simp [lay, fn_masks]
@[simp high] theorem chk_lay_check_copy : chk "Layout" "check_copy" (lay rs) ⟨r, G⟩ = some (.ok (), ⟨r, G⟩) := rfl
@[simp high] theorem chk_lay_is_line : chk "Layout" "is_line" (lay rs) ⟨r, G⟩ = some (.ok (), ⟨r, G⟩) := rfl
@[simp high] theorem chk_lay_lines : chk "Layout" "lines" (lay rs) ⟨r, G⟩ = some (.ok (), ⟨r, G⟩) := rfl
@[simp high] theorem chk_lay_shared : chk "Layout" "shared" (lay rs) ⟨r, G⟩ = some (.ok (), ⟨r, G⟩) := rfl
@[simp high] theorem chk_lay_keepers : chk "Layout" "keepers" (lay rs) ⟨r, G⟩ = some (.ok (), ⟨r, G⟩) := rfl
@[simp high] theorem chk_lay_with_key : chk "Layout" "with_key" (lay rs) ⟨r, G⟩ = some (.ok (), ⟨r, G⟩) := rfl
@[simp high] theorem chk_lay_without_key : chk "Layout" "without_key" (lay rs) ⟨r, G⟩ = some (.ok (), ⟨r, G⟩) := rfl
@[simp high] theorem chk1_lay : chk1 "Layout" (lay rs :: xs) ⟨r, G⟩ = some (.ok (), ⟨r, G⟩) := by simp [lay]
@[simp] theorem ty_lay : tyOfW (lay rs) = some (.own "Layout") := rfl
@[simp] theorem fldL_lay : fldS "Layout" "rows" rdL (lay rs) = if rs.length ≤ sz then some (rs.map tupI) else none := by simp [fldS, rdL, lay]
end
theorem x_len (rs : List (List Int)) (G : List Cell) : m_Layout___len__ [lay rs] G = some (.ok (.val (.int rs.length)), G) := by
  unfold m_Layout___len__
  rw [fnM_e]
  simp [b_Layout___len__]
def RowW (G : List Cell) (w : W) (xs : List Int) : Prop := w = tupI xs ∨ w = lstI xs ∨ ∃ n, w = .ref n ∧ G[n]? = some (.lst (xs.map W.int))
def RowsR (G : List Cell) (R : W) (ws : List W) : Prop := R = .lst ws ∨ R = .tup ws ∨ ∃ m, R = .ref m ∧ G[m]? = some (.lst ws)
theorem RowW.use {G : List Cell} {w : W} {xs : List Int} (h : RowW G w xs) : ∃ o w', (∀ r, walkOf ⟨r, G⟩ w = some ⟨xs.map W.int, o⟩) ∧ (∀ r, Wk.ok ⟨xs.map W.int, o⟩ ⟨r, G⟩) ∧ (∀ r, look (.val w) ⟨r, G⟩ = some (.ok w', ⟨r, G⟩)) ∧ ∀ k neg, fIn neg (.int k) w' = some (.imm (.bl (decide (k ∈ xs) != neg))) := by
  rcases h with rfl | rfl | ⟨n, rfl, h⟩
  · exact ⟨none, tupI xs, fun _ => rfl, fun _ => trivial, fun _ => rfl, fun k neg => fIn_tupI neg k xs⟩
  · exact ⟨none, lstI xs, fun _ => rfl, fun _ => trivial, fun _ => rfl, fun k neg => fIn_lI neg k xs⟩
  · exact ⟨some n, .lst (xs.map W.int), fun _ => by simp [h], fun _ => h, fun _ => by simp [h], fun k neg => fIn_lI neg k xs⟩
theorem RowsR.use {G : List Cell} {R : W} {ws : List W} (h : RowsR G R ws) : ∃ o R', (∀ r, walkOf ⟨r, G⟩ R = some ⟨ws, o⟩) ∧ (∀ r, Wk.ok ⟨ws, o⟩ ⟨r, G⟩) ∧ (∀ r, look (.val R) ⟨r, G⟩ = some (.ok R', ⟨r, G⟩)) ∧ fLen [R'] = some (.imm (.int ws.length)) := by
  rcases h with rfl | rfl | ⟨n, rfl, h⟩
  · exact ⟨none, _, fun _ => rfl, fun _ => trivial, fun _ => rfl, rfl⟩
  · exact ⟨none, _, fun _ => rfl, fun _ => trivial, fun _ => rfl, rfl⟩
  · exact ⟨some n, .lst ws, fun _ => by simp [h], fun _ => h, fun _ => by simp [h], rfl⟩
def fb (rss : List (List Int)) : Option Int := rss.flatten.find? bad
theorem fb_none {rss : List (List Int)} (h : ∀ x ∈ rss.flatten, bad x = false) : fb rss = none := by
  unfold fb
  rw [List.find?_eq_none]
  intro x hx; simp [h x hx]
theorem first_bad {rss : List (List Int)} {i : Nat} {xs : List Int} {j : Nat} {k : Int} (h1 : ∀ x ∈ (rss.take i).flatten, bad x = false) (h2 : rss[i]? = some xs) (h3 : ∀ x ∈ xs.take j, bad x = false) (h4 : xs[j]? = some k) (h5 : bad k = true) : fb rss = some k := by
  have hi := get_lt h2
  have hj := get_lt h4
  have e1 : rss = rss.take i ++ xs :: rss.drop (i + 1) := by
    rw [List.getElem?_eq_getElem hi] at h2
    cases h2
    rw [← drop_get hi, List.take_append_drop]
  have e2 : xs = xs.take j ++ k :: xs.drop (j + 1) := by
    rw [List.getElem?_eq_getElem hj] at h4
    cases h4
    rw [← drop_get hj, List.take_append_drop]
  unfold fb
  rw [e1, List.flatten_append, List.flatten_cons, List.find?_append]
  have n1 : (rss.take i).flatten.find? bad = none := by
    rw [List.find?_eq_none]
    intro x hx; simp [h1 x hx]
  rw [n1, Option.none_or, List.find?_append]
  have n2 : xs.find? bad = some k := by
    rw [e2, List.find?_append]
    have : (xs.take j).find? bad = none := by
      rw [List.find?_eq_none]
      intro x hx; simp [h3 x hx]
    rw [this, Option.none_or, List.find?_cons, h5]
  rw [n2]; rfl
theorem fb_canon {rss : List (List Int)} (h : ∀ xs ∈ rss, ∀ k ∈ xs, 0 ≤ k ∧ k < 8) : fb rss = none := fb_none fun x hx => by
  obtain ⟨l, hl, hx⟩ := List.mem_flatten.mp hx
  obtain ⟨a, b⟩ := h l hl x hx
  simp [bad, a, b]
theorem mask_at {G : List Cell} {a b c : SV} (xs : List Int) : lcL [4] (tgN 4) mYes (mBin fShl (mC (.int 1)) (mName 4)) ⟨(canon xs).map W.int, none⟩ ((canon xs).map W.int) [] ⟨[a, b, c, .val (tupI (canon xs)), .non], G⟩ =
    some (.ok (.own (.lst ((canon xs).map fun k => W.int ((2 : Int) ^ k.toNat)))), ⟨[a, b, c, .val (tupI (canon xs)), .non], G⟩) := by
  rw [lc_all (by exact trivial) (fun k => W.int ((2 : Int) ^ k.toNat))]
  · simp
  · intro k hk
    obtain ⟨k0, k8, _⟩ := canon_mem hk
    have kn : k.natAbs < 64 := by omega
    refine ⟨⟨[a, b, c, .val (tupI (canon xs)), .val (.int k)], G⟩, by simp, ⟨[a, b, c, .val (tupI (canon xs)), .val (.int k)], G⟩, ?_, by simp⟩
    have cp : CPow 1 k := by unfold CPow; constructor <;> first | omega | decide
    simp [cp]
  · have := canon_len xs
    show _ ≤ 16777216
    simp; omega
theorem masks_at {G : List Cell} {a b v4 : SV} {rows : W} {F : Option (Except Ex RV × S)} (rss : List (List Int)) (hl : rss.length ≤ sz) (hF : lcL [3] (tgN 3) mYes (mCB fSum (mCons (mLc [4] (mIter (mName 3)) (tgN 4) mYes (mBin fShl (mC (.int 1)) (mName 4))) mNil)) ⟨rss.map fun xs => tupI (canon xs), none⟩ (rss.map fun xs => tupI (canon xs)) [] ⟨[a, b, .val rows, .non, v4], G⟩ = F) :
    ∃ v4, F = some (.ok (.own (.lst (rss.map fun xs => W.int (mask (canon xs))))), ⟨[a, b, .val rows, .non, v4], G⟩) := by
  obtain ⟨acc, s', rfl, ⟨rfl, v4, rfl⟩, _⟩ := lc_at hF (fun i acc s => acc = (List.take i (rss.map fun xs => W.int (mask (canon xs)))) ∧ ∃ v4, s = ⟨[a, b, .val rows, .non, v4], G⟩) (fun _ _ _ _ => by trivial) ⟨by simp, _, rfl⟩ (by simpa using hl) (by
    rintro i hi acc s ⟨rfl, v4, rfl⟩
    simp at hi
    refine ⟨true, ⟨[a, b, .val rows, .val (tupI (canon rss[i])), v4], G⟩, by simp, fun _ => ⟨.int (mask (canon rss[i])), ⟨[a, b, .val rows, .val (tupI (canon rss[i])), .non], G⟩, ?_, ?_⟩, fun h => by cases h⟩
    · have ht : walkOf ⟨[a, b, .val rows, .val (tupI (canon rss[i])), .non], G⟩ (tupI (canon rss[i])) = some ⟨(canon rss[i]).map W.int, none⟩ := rfl
      have e : ∀ xs : List Int, intsOf (xs.map fun k => W.int ((2 : Int) ^ k.toNat)) = some (xs.map fun k => (2 : Int) ^ k.toNat) := fun xs => by
        have := intsOf_ints (xs.map fun k => (2 : Int) ^ k.toNat)
        rw [List.map_map] at this
        exact this
      simp [mask_at]
      unfold fSum
      simp [e]
      rfl
    · refine ⟨?_, .non, by simp⟩
      rw [List.take_succ_eq_append_getElem (by simpa using hi)]
      simp)
  exact ⟨v4, by rw [List.take_of_length_le (by simp)]⟩
theorem x_init {G : List Cell} {n : Nat} {R : W} {ws : List W} {rss : List (List Int)} (hR : RowsR G R ws) (hn : G[n]? = some (.ins "Layout" [])) (h1 : 1 ≤ ws.length) (h6 : ws.length ≤ 6) (hl : rss.length = ws.length) (hw : ∀ (i : Nat) w xs, ws[i]? = some w → rss[i]? = some xs → RowW G w xs) :
    (∃ k, fb rss = some k ∧ m_Layout___init__ [.ref n, R] G = some (.error ⟨"BadKey", [("key", .int k)]⟩, G)) ∨
    (fb rss = none ∧ m_Layout___init__ [.ref n, R] G = some (.ok (.val .non), G.set n (.ins "Layout" [("rows", .lst (rss.map fun xs => tupI (canon xs))), ("masks", .lst (rss.map fun xs => W.int (mask (canon xs))))]))) := by
  obtain ⟨o, R', k1, k2, k3, k4⟩ := hR.use
  unfold m_Layout___init__
  rw [fnM_e]
  have h1' : (1 : Int) ≤ ws.length := by omega
  have h6' : (ws.length : Int) ≤ 6 := by omega
  simp [b_Layout___init__, k3, k4, h1', h6', k1]
  generalize hF : forL _ _ _ _ = F
  obtain ⟨r, s', rfl, hr⟩ := forL_x hF (fun i s => ∃ v3 v4, s = ⟨[.val (.ref n), .val R, .own (.lst (List.take i (rss.map fun xs => tupI (canon xs)))), v3, v4], G⟩ ∧ ∀ x ∈ (rss.take i).flatten, bad x = false)
    (fun r s' => (r = .ok .nx ∧ (∃ v3 v4, s' = ⟨[.val (.ref n), .val R, .own (.lst (rss.map fun xs => tupI (canon xs))), v3, v4], G⟩) ∧ ∀ x ∈ rss.flatten, bad x = false) ∨
      ∃ k, r = .error ⟨"BadKey", [("key", .int k)]⟩ ∧ s'.G = G ∧ fb rss = some k)
    (by rintro i s ⟨v3, v4, rfl, _⟩; exact k2 _) ⟨.non, .non, by simp [sz], by simp⟩
    (by
      rintro s ⟨v3, v4, rfl, hg⟩
      rw [← hl, List.take_length] at hg
      exact .inl ⟨rfl, ⟨v3, v4, by rw [← hl, List.take_of_length_le (by simp)]⟩, hg⟩) (by
      rintro i hi s ⟨v3, v4, rfl, hg⟩
      have hi2 : i < rss.length := by omega
      obtain ⟨o2, w', q1, q2, q3, q4⟩ := (hw i ws[i] rss[i] (by simp [hi]) (by simp [hi2])).use
      simp [q1]
      generalize hF2 : forL _ _ _ _ = F2
      obtain ⟨r2, s2, rfl, hr2⟩ := forL_x hF2 (fun j s => ∃ v4, s = ⟨[.val (.ref n), .val R, .own (.lst (List.take i (rss.map fun xs => tupI (canon xs)))), .val ws[i], v4], G⟩ ∧ ∀ x ∈ rss[i].take j, bad x = false)
        (fun r s' => (r = .ok .nx ∧ (∃ v4, s' = ⟨[.val (.ref n), .val R, .own (.lst (List.take i (rss.map fun xs => tupI (canon xs)))), .val ws[i], v4], G⟩) ∧ ∀ x ∈ rss[i], bad x = false) ∨
          ∃ k, r = .error ⟨"BadKey", [("key", .int k)]⟩ ∧ s'.G = G ∧ fb rss = some k)
        (by rintro j s ⟨v4, rfl, _⟩; exact q2 _) ⟨v4, rfl, by simp⟩
        (by
          rintro s ⟨v4, rfl, hg2⟩
          simp at hg2
          exact .inl ⟨rfl, ⟨v4, rfl⟩, hg2⟩) (by
          rintro j hj s ⟨v4, rfl, hg2⟩
          simp at hj
          by_cases hb : bad rss[i][j] = true
          · refine ⟨.error ⟨"BadKey", [("key", .int rss[i][j])]⟩, ⟨[.val (.ref n), .val R, .own (.lst (List.take i (rss.map fun xs => tupI (canon xs)))), .val ws[i], .val (.int rss[i][j])], G⟩, ?_, .inr ⟨_, rfl, rfl, first_bad hg (by simp [hi2]) hg2 (by simp [hj]) hb⟩⟩
            unfold bad at hb
            by_cases h0 : 0 ≤ rss[i][j]
            · have h8 : ¬ rss[i][j] < 8 := by simpa [h0] using hb
              simp [h0, h8]
            · simp [h0]
          · have hb' : bad rss[i][j] = false := by simpa using hb
            refine ⟨.ok .nx, ⟨[.val (.ref n), .val R, .own (.lst (List.take i (rss.map fun xs => tupI (canon xs)))), .val ws[i], .val (.int rss[i][j])], G⟩, ?_, _, rfl, ?_⟩
            · unfold bad at hb'
              simp at hb'
              simp [hb'.1, hb'.2]
            · intro x hx
              rw [List.take_succ_eq_append_getElem hj] at hx
              rcases List.mem_append.mp hx with hx | hx
              · exact hg2 x hx
              · simp at hx
                rw [hx]; exact hb')
      rcases hr2 with ⟨rfl, ⟨v4', rfl⟩, hg2⟩ | ⟨k, rfl, hG, hf⟩
      · have hc : lcL [4] (tgN 4) (mB (mBin (fIn false) (mName 4) (mName 3))) (mName 4) ⟨rngW 0 8, none⟩ (rngW 0 8) [] ⟨[.val (.ref n), .val R, .own (.lst (List.take i (rss.map fun xs => tupI (canon xs)))), .val ws[i], .non], G⟩ =
            some (.ok (.own (.lst ((canon rss[i]).map W.int))), ⟨[.val (.ref n), .val R, .own (.lst (List.take i (rss.map fun xs => tupI (canon xs)))), .val ws[i], .non], G⟩) := by
          rw [rng_map, lc_pure (by exact trivial) (fun (k : Nat) => decide ((0 : Int) + (k : Int) ∈ rss[i])) (fun (k : Nat) => W.int ((0 : Int) + (k : Int)))]
          · rw [canon_e]; simp
          · intro k _
            refine ⟨⟨[.val (.ref n), .val R, .own (.lst (List.take i (rss.map fun xs => tupI (canon xs)))), .val ws[i], .val (.int ((0 : Int) + (k : Int)))], G⟩, ?_, ?_, ?_⟩
            · simp [q3, q4]
            · intro _
              exact ⟨⟨[.val (.ref n), .val R, .own (.lst (List.take i (rss.map fun xs => tupI (canon xs)))), .val ws[i], .val (.int ((0 : Int) + (k : Int)))], G⟩, by simp, by simp⟩
            · intro _; simp
          · simp [sz]
        have hsz : min i rss.length < sz := by show _ < 16777216; omega
        simp [hc, fTuple, fAppend, hsz]
        refine ⟨_, _, ⟨rfl, rfl⟩, ?_⟩
        simp
        refine ⟨?_, ?_⟩
        · rw [List.take_succ_eq_append_getElem (by simpa using hi2)]
          simp [tupI]
        · intro x xs hx hxs
          rw [List.take_succ_eq_append_getElem hi2] at hx
          rcases List.mem_append.mp hx with hx | hx
          · exact hg x (List.mem_flatten.mpr ⟨xs, hx, hxs⟩)
          · simp at hx
            subst hx
            exact hg2 x hxs
      · exact ⟨_, _, rfl, .inr ⟨k, rfl, hG, hf⟩⟩)
  rcases hr with ⟨rfl, ⟨v3, v4, rfl⟩, hg⟩ | ⟨k, rfl, hG, hf⟩
  · refine .inr ⟨?_, ?_⟩
    · exact fb_none hg
    · have hlz : rss.length ≤ sz := by show _ ≤ 16777216; omega
      simp [hn, fn_rows, putFW]
      generalize hF3 : lcL _ _ _ _ _ _ _ _ = F3
      obtain ⟨v5, rfl⟩ := masks_at rss hlz hF3
      have hnl : n < G.length := get_lt hn
      have hne : ¬ (("rows" : Str) = "masks") := by decide
      simp [fn_masks, putFW, hnl, hne]
  · refine .inl ⟨k, hf, ?_⟩
    simp [hG]
theorem RowW.mono {G G' : List Cell} {w : W} {xs : List Int} (h : RowW G w xs) (hp : ∀ (n : Nat) c, G[n]? = some c → G'[n]? = some c) : RowW G' w xs := by
  rcases h with h | h | ⟨n, e, h⟩
  · exact .inl h
  · exact .inr (.inl h)
  · exact .inr (.inr ⟨n, e, hp _ _ h⟩)
theorem RowsR.mono {G G' : List Cell} {w : W} {xs : List W} (h : RowsR G w xs) (hp : ∀ (n : Nat) c, G[n]? = some c → G'[n]? = some c) : RowsR G' w xs := by
  rcases h with h | h | ⟨n, e, h⟩
  · exact .inl h
  · exact .inr (.inl h)
  · exact .inr (.inr ⟨n, e, hp _ _ h⟩)
theorem app_pre {G E : List Cell} (n : Nat) (c : Cell) (h : G[n]? = some c) : (G ++ E)[n]? = some c := by
  rw [List.getElem?_append_left (get_lt h)]; exact h
@[simp] theorem noRefs_ints : ∀ xs : List Int, noRefs (xs.map W.int) = true
  | [] => rfl
  | x :: xs => by simp [noRefs, noRef, noRefs_ints xs]
@[simp] theorem noRefs_tups : ∀ xs : List (List Int), noRefs (xs.map tupI) = true
  | [] => rfl
  | x :: xs => by simp [noRefs, noRef, tupI, noRefs_tups xs]
theorem noRefs_masks : ∀ rs : List (List Int), noRefs (rs.map fun xs => W.int (mask xs)) = true
  | [] => rfl
  | x :: xs => by simp [noRefs, noRef, noRefs_masks xs]
theorem x_make {r : List SV} {G : List Cell} {R : W} {ws : List W} {rss : List (List Int)} {rs : List (List Int)} (hrs : rss.map canon = rs) (hR : RowsR G R ws) (h1 : 1 ≤ ws.length) (h6 : ws.length ≤ 6) (hl : rss.length = ws.length) (hw : ∀ (i : Nat) w xs, ws[i]? = some w → rss[i]? = some xs → RowW G w xs) :
    (∃ k, fb rss = some k ∧ makeG "Layout" m_Layout___init__ [R] ⟨r, G⟩ = some (.error ⟨"BadKey", [("key", .int k)]⟩, ⟨r, G ⟩)) ∨
    (fb rss = none ∧ makeG "Layout" m_Layout___init__ [R] ⟨r, G⟩ = some (.ok (.own (.ins "Layout" [("rows", .lst (rs.map tupI)), ("masks", .lst (rs.map fun xs => W.int (mask xs)))])), ⟨r, G⟩)) := by
  rcases x_init (G := G ++ [.ins "Layout" []]) (n := G.length) (hR.mono app_pre) (by simp) h1 h6 hl (fun i w xs a b => (hw i w xs a b).mono app_pre) with ⟨k, hk, e⟩ | ⟨hk, e⟩
  · refine .inl ⟨k, hk, ?_⟩
    unfold makeG
    simp only []
    rw [e]
    simp [noRefF, noRef]
  · refine .inr ⟨hk, ?_⟩
    unfold makeG
    simp only []
    rw [e]
    have e1 : (List.map (fun xs => tupI (canon xs)) rss) = rs.map tupI := by rw [← hrs, List.map_map]; rfl
    have e2 : (List.map (fun xs => W.int (mask (canon xs))) rss) = rs.map fun xs => W.int (mask xs) := by rw [← hrs, List.map_map]; rfl
    rw [e1, e2]
    have n1 := noRefs_tups rs
    have n2 := noRefs_masks rs
    simp [Cell.noRef, noRefF, noRef, n1, n2]
theorem x_makeOk {r : List SV} {G : List Cell} {R : W} {ws : List W} {rss : List (List Int)} {rs : List (List Int)} (hrs : rss.map canon = rs) (hR : RowsR G R ws) (h1 : 1 ≤ ws.length) (h6 : ws.length ≤ 6) (hl : rss.length = ws.length) (hw : ∀ (i : Nat) w xs, ws[i]? = some w → rss[i]? = some xs → RowW G w xs) (hk : ∀ xs ∈ rss, ∀ k ∈ xs, 0 ≤ k ∧ k < 8) :
    makeG "Layout" m_Layout___init__ [R] ⟨r, G⟩ = some (.ok (.own (.ins "Layout" [("rows", .lst (rs.map tupI)), ("masks", .lst (rs.map fun xs => W.int (mask xs)))])), ⟨r, G⟩) := by
  rcases x_make (r := r) hrs hR h1 h6 hl hw with ⟨k, h, _⟩ | ⟨_, h⟩
  · rw [fb_canon hk] at h; cases h
  · exact h
theorem x_makeL {r : List SV} {G : List Cell} {rss rs : List (List Int)} (hrs : rss.map canon = rs) (h1 : 1 ≤ rss.length) (h6 : rss.length ≤ 6) (hk : ∀ xs ∈ rss, ∀ k ∈ xs, 0 ≤ k ∧ k < 8) :
    makeG "Layout" m_Layout___init__ [.lst (rss.map lstI)] ⟨r, G⟩ = some (.ok (.own (.ins "Layout" [("rows", .lst (rs.map tupI)), ("masks", .lst (rs.map fun xs => W.int (mask xs)))])), ⟨r, G⟩) :=
  x_makeOk (ws := rss.map lstI) hrs (.inl rfl) (by simpa using h1) (by simpa using h6) (by simp) (fun i w xs a b => by
    rw [List.getElem?_map, b] at a
    cases a
    exact .inr (.inl rfl)) hk
end Z
set_option linter.all false
set_option maxRecDepth 100000
namespace Z
open PySem PySem.Spec PyProof.Rows L2
theorem fAdd_ll {a b : List W} (h : a.length + b.length ≤ sz) : fAdd (.lst a) (.lst b) = some (.newl (a ++ b)) := by
  unfold fAdd orf
  rw [show fI (fun i j => i + j) (.lst a) (.lst b) = none from rfl]
  simp only []
  rw [show fAddS (.lst a) (.lst b) = none from rfl]
  simp only []
  rw [show fAddL (.lst a) (.lst b) = some (.newl (a ++ b)) from by unfold fAddL; simp [h]]
theorem canon_filter {n : Nat} (hn : n ≤ 8) (p : Nat → Bool) : canon (((List.range n).filter p).map fun (k : Nat) => (k : Int)) = ((List.range n).filter p).map fun (k : Nat) => (k : Int) := by
  have key : ∀ k : Nat, decide ((k : Int) ∈ ((List.range n).filter p).map fun (k : Nat) => (k : Int)) = (decide (k < n) && p k) := by
    intro k
    rw [Bool.eq_iff_iff]
    simp only [decide_eq_true_eq, List.mem_map, List.mem_filter, List.mem_range, Bool.and_eq_true]
    constructor
    · rintro ⟨j, hj, e⟩
      have : j = k := by omega
      subst this; exact hj
    · intro h; exact ⟨k, h, rfl⟩
  obtain ⟨m, hm⟩ : ∃ m, 8 = n + m := ⟨8 - n, by omega⟩
  have e8 : List.range 8 = List.range n ++ (List.range m).map (n + ·) := by rw [← List.range_add, ← hm]
  unfold canon
  rw [List.filter_congr (q := fun k => decide (k < n) && p k) (fun k _ => key k), e8, List.filter_append, List.map_append]
  have z1 : ((List.range m).map (n + ·)).filter (fun k => decide (k < n) && p k) = [] := by
    rw [List.filter_eq_nil_iff]
    intro k hk
    obtain ⟨j, _, rfl⟩ := List.mem_map.mp hk
    simp
    omega
  rw [z1, List.map_nil, List.append_nil]
  congr 1
  apply List.filter_congr
  intro k hk
  simp [List.mem_range.mp hk]
theorem x_row (kind copy many number : Int) (c0 : 0 ≤ copy) (m1 : 1 ≤ many) (m6 : many ≤ 6) (G : List Cell) : ∃ xs : List Int, m__law_row [.int kind, .int copy, .int many, .int number] G = some (.ok (.own (.lst (xs.map W.int))), G) ∧ canon xs = xs := by
  unfold m__law_row
  rw [fnM_o]
  have h1 : 1 ≤ sz := by decide
  have h2 : 2 ≤ sz := by decide
  have c8 : CDivW number 8 := by unfold CDivW; constructor <;> decide
  have hfin : ∀ (ms : List Int) (v5 : SV), lcL [6] (tgN 6) (mB (mBin (fIn false) (mName 6) (mName 4))) (mName 6) ⟨rngW 0 8, none⟩ (rngW 0 8) [] ⟨[.val (.int kind), .val (.int copy), .val (.int many), .val (.int number), .own (.lst (ms.map W.int)), v5, .non], G⟩ =
      some (.ok (.own (.lst ((canon ms).map W.int))), ⟨[.val (.int kind), .val (.int copy), .val (.int many), .val (.int number), .own (.lst (ms.map W.int)), v5, .non], G⟩) := by
    intro ms v5
    rw [rng_map, lc_pure (by exact trivial) (fun (k : Nat) => decide ((0 : Int) + (k : Int) ∈ ms)) (fun (k : Nat) => W.int ((0 : Int) + (k : Int)))]
    · rw [canon_e]; simp
    · intro k _
      refine ⟨⟨[.val (.int kind), .val (.int copy), .val (.int many), .val (.int number), .own (.lst (ms.map W.int)), v5, .val (.int ((0 : Int) + (k : Int)))], G⟩, ?_, ?_, ?_⟩
      · simp [fIn_lI]
      · intro _
        exact ⟨⟨[.val (.int kind), .val (.int copy), .val (.int many), .val (.int number), .own (.lst (ms.map W.int)), v5, .val (.int ((0 : Int) + (k : Int)))], G⟩, by simp, by simp⟩
      · intro _; simp
    · simp [sz]
  have hbits : ∀ (n : Nat), n ≤ 8 → lcL [6] (tgN 6) (mB (mBin fEqD (mBin fMod (mCB fInt1 (mCons (mBin fShr (mName 3) (mName 6)) mNil)) (mC (.int 2))) (mC (.int 1)))) (mName 6) ⟨rngW 0 n, none⟩ (rngW 0 n) [] ⟨[.val (.int kind), .val (.int copy), .val (.int many), .val (.int number), .non, .val (.int n), .non], G⟩ =
      some (.ok (.own (.lst ((((List.range n).filter fun (k : Nat) => decide (number / 2 ^ k % 2 = 1)).map fun (k : Nat) => (k : Int)).map W.int))), ⟨[.val (.int kind), .val (.int copy), .val (.int many), .val (.int number), .non, .val (.int n), .non], G⟩) := by
    intro n hn
    rw [rng_map, lc_pure (by exact trivial) (fun (k : Nat) => decide (number / 2 ^ k % 2 = 1)) (fun (k : Nat) => W.int ((0 : Int) + (k : Int)))]
    · simp
    · intro k _
      refine ⟨⟨[.val (.int kind), .val (.int copy), .val (.int many), .val (.int number), .non, .val (.int n), .val (.int ((0 : Int) + (k : Int)))], G⟩, ?_, ?_, ?_⟩
      · simp [fEqD_i]
      · intro _
        exact ⟨⟨[.val (.int kind), .val (.int copy), .val (.int many), .val (.int number), .non, .val (.int n), .val (.int ((0 : Int) + (k : Int)))], G⟩, by simp, by simp⟩
      · intro _; simp
    · have : (8 : Nat) ≤ sz := by decide
      simp; omega
  have b8 := hbits 8 (by omega)
  have b3 := hbits 3 (by omega)
  by_cases k0 : kind = 0
  · subst k0
    refine ⟨_, ?_, canon_filter (n := 8) (by omega) fun (k : Nat) => decide (number / 2 ^ k % 2 = 1)⟩
    simp at b8
    simp [b__law_row, fEqD_i, b8]
  by_cases k5 : kind = 5
  · subst k5
    refine ⟨_, ?_, canon_filter (n := 3) (by omega) fun (k : Nat) => decide (number / 2 ^ k % 2 = 1)⟩
    simp at b3
    simp [b__law_row, fEqD_i, b3]
  suffices h : ∃ ms : List Int, outF (b__law_row ⟨[.val (.int kind), .val (.int copy), .val (.int many), .val (.int number), .non, .non, .non], G⟩) = some (.ok (.own (.lst ((canon ms).map W.int))), G) by
    obtain ⟨ms, h⟩ := h
    exact ⟨canon ms, h, canon_idem ms⟩
  have ml : ∀ (ms : List Int) (q : List W) (k : Int), ms.length ≤ 8 → q = ms.map W.int → fAdd (.lst q) (.lst [.int k]) = some (.newl ((ms ++ [k]).map W.int)) := fun ms q k hl hq => by
    subst hq
    rw [fAdd_ll (by show _ ≤ 16777216; simp; omega)]
    simp
  have g : ∀ (ms : List Int), ms.length ≤ 8 → ∃ ms2 : List Int, (if kind = 3 ∨ number / 8 % 4 = 0 then fAdd (.lst (ms.map W.int)) (.lst [.int (number % 8)]) else some (.newl (ms.map W.int))) = some (.newl (ms2.map W.int)) := fun ms hl => by
    split
    · exact ⟨_, ml ms _ _ hl rfl⟩
    · exact ⟨ms, rfl⟩
  have go : ∀ (ms : List Int) (v5 : SV), ms.length ≤ 8 → ∃ ms2 : List Int, outF ((mSeq (mIf (mOr (mB (mBin fEqD (mName 0) (mC (.int 3)))) (mB (mBin fEqD (mBin fMod (mCB fInt1 (mCons (mBin fDiv (mName 3) (mC (.int 8))) mNil)) (mC (.int 4))) (mC (.int 0))))) (mAsg 4 (mBin fAdd (mName 4) (mLst (mCons (mBin fMod (mCB fInt1 (mCons (mName 3) mNil)) (mC (.int 8))) mNil)))) mNext) (mRet (mLc [6] (mRng1 (mCons (mC (.int 8)) mNil)) (tgN 6) (mB (mBin (fIn false) (mName 6) (mName 4))) (mName 6)))) ⟨[.val (.int kind), .val (.int copy), .val (.int many), .val (.int number), .own (.lst (ms.map W.int)), v5, .non], G⟩) = some (.ok (.own (.lst ((canon ms2).map W.int))), G) := by
    intro ms v5 hl
    have hm := ml ms _ (number % 8) hl rfl
    by_cases k3 : kind = 3
    · refine ⟨ms ++ [number % 8], ?_⟩
      have hf := hfin (ms ++ [number % 8]) v5
      generalize ms ++ [number % 8] = ms3 at hm hf
      simp [fEqD_i, k3, h1, hm]
      rw [← k3, hf]
      simp
    · by_cases k4 : number / 8 % 4 = 0
      · refine ⟨ms ++ [number % 8], ?_⟩
        have hf := hfin (ms ++ [number % 8]) v5
        generalize ms ++ [number % 8] = ms3 at hm hf
        simp [fEqD_i, k3, k4, c8, h1, hm, hf]
      · exact ⟨ms, by simp [fEqD_i, k3, k4, c8, h1, hfin]⟩
  by_cases k1 : kind = 1
  · obtain ⟨ms2, h⟩ := go [copy, copy + 1] .non (by simp)
    refine ⟨ms2, ?_⟩
    rw [← h]
    simp [b__law_row, fEqD_i, k1, c8, h1, h2]
  by_cases k2 : kind = 2
  · by_cases q : copy = 0
    · have hr : Rl 0 (many - 1) := rl_le (by omega) (by omega) (by omega) (by omega)
      obtain ⟨ms2, h⟩ := go ((List.range (many - 1).toNat).map fun (k : Nat) => (0 : Int) + (k : Int)) .non (by simp; omega)
      refine ⟨ms2, ?_⟩
      rw [← h]
      have e : rngW 0 (many - 1).toNat = ((List.range (many - 1).toNat).map fun (k : Nat) => (0 : Int) + (k : Int)).map W.int := by rw [List.map_map]; rfl
      rw [← e]
      simp [b__law_row, fEqD_i, k2, c8, h1, h2, q, hr]
    · obtain ⟨ms2, h⟩ := go [copy - 1] .non (by simp)
      refine ⟨ms2, ?_⟩
      rw [← h]
      simp [b__law_row, fEqD_i, k2, c8, h1, h2, q]
  by_cases k4 : kind = 4
  · have hm : (0 : Int) < many := by omega
    obtain ⟨ms2, h⟩ := go [copy, (copy + 1) % many] .non (by simp)
    refine ⟨ms2, ?_⟩
    rw [← h]
    simp [b__law_row, fEqD_i, k4, c8, h1, h2, hm]
  · obtain ⟨ms2, h⟩ := go [number / 8 % 8] .non (by simp)
    refine ⟨ms2, ?_⟩
    rw [← h]
    simp [b__law_row, fEqD_i, k0, k1, k2, k4, k5, c8, h1, h2]
end Z
set_option linter.all false
set_option maxRecDepth 100000
namespace Z
open PySem PySem.Spec PyProof.Rows L2
def r256 : List Int := List.replicate 6 256
def lims8 (k : Int) : List Int := [6, k] ++ r256
theorem lims256 : fMul (.lst [.int 256]) (.int 6) = some (.newl (r256.map W.int)) := rfl
theorem fAdd_lims {k : Int} : fAdd (.lst [.int 6, .int k]) (.lst (r256.map W.int)) = some (.newl ((lims8 k).map W.int)) := rfl
theorem x_rows (cell least top : Int) (l1 : 1 ≤ least) (lt : least ≤ top) (t6 : top ≤ 6) (G : List Cell) : ∃ rs : List (List Int), m__law_rows [.int cell, .int least, .int top] G = some (.ok (.own (.lst (rs.map lstI))), G) ∧ least ≤ rs.length ∧ rs.length ≤ top ∧ ∀ xs ∈ rs, canon xs = xs := by
  unfold m__law_rows
  rw [fnM_o]
  have h1 : 1 ≤ sz := by decide
  have h2 : 2 ≤ sz := by decide
  obtain ⟨xs, hx, hlen, hlim⟩ := x_numbers cell 1 (lims8 (1 + top - least)) (by
    intro l hl
    simp [lims8, r256] at hl
    rcases hl with rfl | rfl | rfl
    · decide
    · refine ⟨by omega, ?_⟩
      exact Nat.lt_of_le_of_lt (Nat.log2_le_self _) (by omega)
    · decide) (by simp [lims8, r256]) G
  have hlen8 : xs.length = 8 := by rw [hlen]; simp [lims8, r256]
  have a0 : atI (xs.map W.int) 0 = some (.int (xs[0]'(by omega))) := atI_mapI (k := 0) (by omega)
  have a1 : atI (xs.map W.int) 1 = some (.int (xs[1]'(by omega))) := atI_mapI (k := 1) (by omega)
  have b1 := hlim 1 _ (1 + top - least) (List.getElem?_eq_getElem (by omega)) rfl
  generalize xs[0]'(by omega) = kind at a0
  generalize xs[1]'(by omega) = more at a1 b1
  obtain ⟨n, hn⟩ := Int.eq_ofNat_of_zero_le (a := least + more) (by omega)
  have hR : Rk (n : Int) := rk_nat (by omega)
  simp [b__law_rows, h1, h2, lims256, fAdd_lims, hx, a1, hn, hR]
  generalize hF : lcL _ _ _ _ _ _ _ _ = F
  obtain ⟨acc, s', rfl, ⟨rs, rfl, e1, e2, rfl⟩, _⟩ := lc_at hF (fun i acc s => ∃ rs : List (List Int), acc = rs.map lstI ∧ rs.length = i ∧ (∀ xs ∈ rs, canon xs = xs) ∧ s = ⟨[.val (.int cell), .val (.int least), .val (.int top), .own (.lst (xs.map W.int)), .val (.int n), .non], G⟩) (fun _ _ _ _ => by trivial) ⟨[], rfl, rfl, by simp, rfl⟩ (by
      have : (1000 : Nat) ≤ sz := by decide
      simp [rngW]; omega) (by
    rintro i hi acc s ⟨rs, rfl, e1, e2, rfl⟩
    simp [rngW] at hi
    have ai : atI (xs.map W.int) (2 + (i : Int)) = some (.int (xs[2 + i]'(by omega))) := by
      have := atI_mapI (xs := xs) (k := 2 + i) (by omega)
      simpa using this
    obtain ⟨ys, hy, hc⟩ := x_row kind i n (xs[2 + i]'(by omega)) (by omega) (by omega) (by omega) G
    refine ⟨true, ⟨[.val (.int cell), .val (.int least), .val (.int top), .own (.lst (xs.map W.int)), .val (.int n), .val (.int i)], G⟩, by simp [rngW], fun _ => ⟨lstI ys, ⟨[.val (.int cell), .val (.int least), .val (.int top), .own (.lst (xs.map W.int)), .val (.int n), .val (.int i)], G⟩, ?_, rs ++ [ys], by simp, by simp [e1], ?_, by simp⟩, fun h => by cases h⟩
    · simp [a0, ai, hy]
      rfl
    · intro zs hz
      rcases List.mem_append.mp hz with hz | hz
      · exact e2 zs hz
      · simp at hz; subst hz; exact hc)
  simp [rngW] at e1
  simp
  exact ⟨rs, rfl, by omega, by omega, e2⟩
theorem canon_k8 {rs : List (List Int)} (h : ∀ xs ∈ rs, canon xs = xs) : ∀ xs ∈ rs, ∀ k ∈ xs, 0 ≤ k ∧ k < 8 := fun x hx k hk => by
  rw [← h x hx] at hk
  exact ⟨(canon_mem hk).1, (canon_mem hk).2.1⟩
theorem canon_map {rs : List (List Int)} (h : ∀ xs ∈ rs, canon xs = xs) : rs.map canon = rs := by
  rw [List.map_congr_left (fun xs hx => h xs hx), List.map_id']
theorem canon_len8 {rs : List (List Int)} (h : ∀ xs ∈ rs, canon xs = xs) : ∀ xs ∈ rs, xs.length ≤ 8 := fun x hx => by
  rw [← h x hx]; exact canon_len x
def nmask (f : Nat → Bool) : Nat := ((List.range 8).map fun k => if f k then 2 ^ k else 0).sum
theorem sum_filter (p : Nat → Bool) (g : Nat → Int) : ∀ l : List Nat, ((l.filter p).map g).sum = (l.map fun k => if p k then g k else 0).sum
  | [] => rfl
  | x :: l => by
    simp only [List.filter_cons, List.map_cons, List.sum_cons]
    cases p x with
    | true => simp [sum_filter p g l]
    | false => simp [sum_filter p g l]
theorem mask_nat {xs : List Int} (h : canon xs = xs) : mask xs = (nmask fun k => decide ((k : Int) ∈ xs) : Nat) := by
  have e : mask (canon xs) = (nmask fun k => decide ((k : Int) ∈ xs) : Nat) := by
    unfold mask canon nmask
    rw [List.map_map, sum_filter]
    have r8 : List.range 8 = [0, 1, 2, 3, 4, 5, 6, 7] := rfl
    rw [r8]
    simp only [List.map_cons, List.map_nil, List.sum_cons, List.sum_nil, Function.comp_apply, Int.toNat_natCast]
    have pw : ∀ b : Bool, ∀ n : Nat, (if b = true then (2 : Int) ^ n else 0) = ((if b = true then 2 ^ n else 0 : Nat) : Int) := fun b n => by cases b <;> simp
    simp only [pw]
    simp only [Int.natCast_add, Int.natCast_zero]
  rw [← e, h]
theorem nmask_bit8 : ∀ b0 b1 b2 b3 b4 b5 b6 b7 : Bool, ∀ j, j < 8 → ((if b0 then 1 else 0) + ((if b1 then 2 else 0) + ((if b2 then 4 else 0) + ((if b3 then 8 else 0) + ((if b4 then 16 else 0) + ((if b5 then 32 else 0) + ((if b6 then 64 else 0) + ((if b7 then 128 else 0) + 0)))))))).testBit j = [b0, b1, b2, b3, b4, b5, b6, b7].getD j false := by decide +kernel
theorem nmask_bit (f : Nat → Bool) (j : Nat) (h : j < 8) : (nmask f).testBit j = f j := by
  have := nmask_bit8 (f 0) (f 1) (f 2) (f 3) (f 4) (f 5) (f 6) (f 7) j h
  unfold nmask
  rw [show List.range 8 = [0, 1, 2, 3, 4, 5, 6, 7] from rfl]
  simp only [List.map_cons, List.map_nil, List.sum_cons, List.sum_nil]
  refine Eq.trans this ?_
  have : j = 0 ∨ j = 1 ∨ j = 2 ∨ j = 3 ∨ j = 4 ∨ j = 5 ∨ j = 6 ∨ j = 7 := by omega
  rcases this with rfl | rfl | rfl | rfl | rfl | rfl | rfl | rfl <;> rfl
theorem nmask_lt (f : Nat → Bool) : nmask f < 2 ^ 8 := by
  unfold nmask
  rw [show List.range 8 = [0, 1, 2, 3, 4, 5, 6, 7] from rfl]
  simp only [List.map_cons, List.map_nil, List.sum_cons, List.sum_nil]
  repeat' split
  all_goals decide
def common (xs ys : List Int) : Bool := xs.any fun k => decide (k ∈ ys)
theorem common_iff {xs ys : List Int} : common xs ys = true ↔ ∃ k ∈ xs, k ∈ ys := by
  unfold common
  simp
theorem mask_and {xs ys : List Int} (hx : canon xs = xs) (hy : canon ys = ys) : ∃ r : Int, fBAnd (.int (mask xs)) (.int (mask ys)) = some (.imm (.int r)) ∧ (r = 0 ↔ common xs ys = false) := by
  refine ⟨Builtin.bitAnd (mask xs) (mask ys), rfl, ?_⟩
  rw [mask_nat hx, mask_nat hy]
  have e : ∀ a b : Nat, Builtin.bitAnd (a : Int) (b : Int) = ((a &&& b : Nat) : Int) := fun a b => by
    unfold Builtin.bitAnd
    have h1 : decide ((0 : Int) ≤ (a : Int)) = true := by simp
    have h2 : decide ((0 : Int) ≤ (b : Int)) = true := by simp
    rw [h1, h2]
    simp
  rw [e]
  generalize hf : (fun k : Nat => decide ((k : Int) ∈ xs)) = f
  generalize hg : (fun k : Nat => decide ((k : Int) ∈ ys)) = g
  have hfk : ∀ k : Nat, f k = decide ((k : Int) ∈ xs) := fun k => by rw [← hf]
  have hgk : ∀ k : Nat, g k = decide ((k : Int) ∈ ys) := fun k => by rw [← hg]
  constructor
  · intro h0
    have h0' : nmask f &&& nmask g = 0 := by omega
    cases hc : common xs ys with
    | false => rfl
    | true =>
      obtain ⟨k, k1, k2⟩ := common_iff.mp hc
      have hk := k1
      rw [← hx] at hk
      obtain ⟨k0, k8, _⟩ := canon_mem hk
      have hb : (nmask f &&& nmask g).testBit k.toNat = true := by
        have : ((k.toNat : Nat) : Int) = k := Int.toNat_of_nonneg k0
        rw [Nat.testBit_and, nmask_bit f _ (by omega), nmask_bit g _ (by omega), hfk, hgk, this]
        simp [k1, k2]
      rw [h0'] at hb
      simp at hb
  · intro hc
    have : nmask f &&& nmask g = 0 := by
      apply Nat.eq_of_testBit_eq
      intro j
      rw [Nat.testBit_and, Nat.zero_testBit]
      by_cases hj : j < 8
      · rw [nmask_bit f j hj, nmask_bit g j hj, hfk, hgk]
        by_cases h1 : (j : Int) ∈ xs
        · by_cases h2 : (j : Int) ∈ ys
          · have : common xs ys = true := common_iff.mpr ⟨_, h1, h2⟩
            rw [hc] at this; cases this
          · simp [h2]
        · simp [h1]
      · rw [Nat.testBit_lt_two_pow (i := j) (Nat.lt_of_lt_of_le (nmask_lt f) (Nat.pow_le_pow_right (by omega) (by omega)))]
        rfl
    rw [this]; rfl
def lineB (rs : List (List Int)) (s t : Nat) : Bool := decide (s ≠ t) && common (rs.getD s []) (rs.getD t [])
def linesFrom (rs : List (List Int)) (s : Nat) : List (List Int) := ((List.range rs.length).filter fun t => lineB rs s t).map fun (t : Nat) => [(s : Int), (t : Int)]
def linesOf (rs : List (List Int)) : List (List Int) := (List.range rs.length).flatMap (linesFrom rs)
theorem lines_len (rs : List (List Int)) : (linesOf rs).length ≤ rs.length * rs.length := by
  unfold linesOf
  rw [List.length_flatMap]
  have : ∀ l : List Nat, (l.map fun s => (linesFrom rs s).length).sum ≤ l.length * rs.length := by
    intro l
    induction l with
    | nil => simp
    | cons x l ih =>
      have : (linesFrom rs x).length ≤ rs.length := by
        unfold linesFrom
        rw [List.length_map]
        exact Nat.le_trans (List.length_filter_le _ _) (by simp)
      simp only [List.map_cons, List.sum_cons, List.length_cons]
      rw [Nat.succ_mul]
      omega
  have h := this (List.range rs.length)
  simpa using h
theorem x_is_line (rs : List (List Int)) (hc : ∀ xs ∈ rs, canon xs = xs) (s t : Nat) (hs : s < rs.length) (ht : t < rs.length) (G : List Cell) : m_Layout_is_line [lay rs, .int s, .int t] G = some (.ok (.val (.bl (lineB rs s t))), G) := by
  unfold m_Layout_is_line
  rw [fnM_o]
  have es : atI (rs.map fun xs => W.int (mask xs)) (s : Int) = some (.int (mask rs[s])) := atI_nat (by simp [hs])
  have et : atI (rs.map fun xs => W.int (mask xs)) (t : Int) = some (.int (mask rs[t])) := atI_nat (by simp [ht])
  obtain ⟨r, hr, hr0⟩ := mask_and (hc _ (List.getElem_mem hs)) (hc _ (List.getElem_mem ht))
  have hs' : (s : Int) < rs.length := by omega
  have ht' : (t : Int) < rs.length := by omega
  have e : lineB rs s t = (decide (s ≠ t) && common rs[s] rs[t]) := by simp [lineB, hs, ht]
  rw [e]
  by_cases h : s = t
  · simp [b_Layout_is_line, h, fEqD_i]
  · have h' : ¬ (s : Int) = (t : Int) := by omega
    simp [b_Layout_is_line, h', fEqD_i, hs', ht', es, et, hr, fNeD_i, h]
    cases hcm : common rs[s] rs[t] with
    | true =>
      have : ¬ r = 0 := fun z => by rw [hr0.mp z] at hcm; cases hcm
      simp [this]
    | false => simp [hr0.mpr hcm]
theorem x_lines (rs : List (List Int)) (hc : ∀ xs ∈ rs, canon xs = xs) (hl : rs.length ≤ 1000) (G : List Cell) : m_Layout_lines [lay rs] G = some (.ok (.own (.lst ((linesOf rs).map tupI))), G) := by
  unfold m_Layout_lines
  rw [fnM_o]
  have hR : Rl 0 (rs.length : Int) := rl_nat (by omega)
  have h2 : 2 ≤ sz := by decide
  have e : lcL2 [2, 3] [3] (tgN 2) mYes (mIter (mName 1)) (tgN 3) (mB (mMeth "Layout" "is_line" 3 m_Layout_is_line [] (mName 0) (mCons (mName 2) (mCons (mName 3) mNil)))) (mTup (mCons (mName 2) (mCons (mName 3) mNil))) ⟨rngW 0 rs.length, none⟩ (rngW 0 rs.length) [] ⟨[.val (lay rs), .val (.lst (rngW 0 rs.length)), .non, .non], G⟩ =
      some (.ok (.own (.lst ([] ++ (List.range rs.length).flatMap fun (s : Nat) => ((List.range rs.length).filter fun t => lineB rs s t).map fun (t : Nat) => tupI [(s : Int), (t : Int)]))), ⟨[.val (lay rs), .val (.lst (rngW 0 rs.length)), .non, .non], G⟩) := by
    conv => lhs; arg 10; rw [rng_map]
    refine lc2_pure (e1 := fun (k : Nat) => W.int (0 + (k : Int))) (by exact trivial) (fun _ => List.range rs.length) (fun s t => lineB rs s t) (fun (s t : Nat) => tupI [(s : Int), (t : Int)]) _ _ ?_ ?_
    · intro s hs
      have hs := List.mem_range.mp hs
      refine ⟨⟨[.val (lay rs), .val (.lst (rngW 0 rs.length)), .val (.int s), .non], G⟩, by simp, ⟨rngW 0 rs.length, none⟩, ⟨[.val (lay rs), .val (.lst (rngW 0 rs.length)), .val (.int s), .non], G⟩, by simp, rng_map, trivial, by simp, ?_⟩
      intro t ht
      have ht := List.mem_range.mp ht
      refine ⟨⟨[.val (lay rs), .val (.lst (rngW 0 rs.length)), .val (.int s), .val (.int t)], G⟩, by simp [x_is_line rs hc s t hs ht], fun _ => ⟨⟨[.val (lay rs), .val (.lst (rngW 0 rs.length)), .val (.int s), .val (.int t)], G⟩, by simp [h2, tupI], by simp⟩, fun _ => by simp⟩
    · have : ((List.range rs.length).map fun _ => (List.range rs.length).length).sum = rs.length * rs.length := by
        have : ∀ l : List Nat, (l.map fun _ => rs.length).sum = l.length * rs.length := by
          intro l
          induction l with
          | nil => simp
          | cons x l ih => simp only [List.map_cons, List.sum_cons, List.length_cons, ih, Nat.succ_mul]; omega
        have h := this (List.range rs.length)
        simpa using h
      rw [this]
      have := Nat.mul_le_mul hl hl
      show _ ≤ 16777216
      simp
      omega
  have e2 : (List.range rs.length).flatMap (fun (s : Nat) => ((List.range rs.length).filter fun t => lineB rs s t).map fun (t : Nat) => tupI [(s : Int), (t : Int)]) = (linesOf rs).map tupI := by
    unfold linesOf linesFrom
    rw [List.map_flatMap]
    simp
    rfl
  rw [e2] at e
  simp only [List.nil_append] at e
  simp [b_Layout_lines, hR, e]
end Z
set_option linter.all false
set_option maxRecDepth 100000
namespace Z
open PySem PySem.Spec PyProof.Rows L2
def sharedOf (xs ys : List Int) : List Int := xs.filter fun k => decide (k ∈ ys)
theorem shared_nil {xs ys : List Int} : sharedOf xs ys = [] ↔ common xs ys = false := by
  unfold sharedOf common
  rw [List.filter_eq_nil_iff, List.any_eq_false]
structure RowE (e : List Int → W) : Prop where
  walk : ∀ s xs, walkOf s (e xs) = some ⟨xs.map W.int, none⟩
  inn : ∀ neg k xs, fIn neg (.int k) (e xs) = some (.imm (.bl (decide (k ∈ xs) != neg)))
  look : ∀ r G xs, look (.val (e xs)) ⟨r, G⟩ = some (.ok (e xs), ⟨r, G⟩)
  tup : ∀ xs, fTuple [e xs] = some (.imm (tupI xs)) ∨ fTuple [e xs] = some (.newt (xs.map W.int))
  lst : ∀ xs, fList [e xs] = some (.newl (xs.map W.int))
theorem rowE_lst : RowE lstI := ⟨fun _ _ => rfl, fun neg k xs => fIn_lI neg k xs, fun _ _ _ => rfl, fun xs => .inr rfl, fun _ => rfl⟩
theorem x_law_linesR {e : List Int → W} (he : RowE e) (rs : List (List Int)) (hl : rs.length ≤ 1000) (h8 : ∀ xs ∈ rs, xs.length ≤ 8) (G : List Cell) {R : W} (hR0 : ∀ r, look (.val R) ⟨r, G⟩ = some (.ok (.lst (rs.map e)), ⟨r, G⟩)) : m__law_lines [R] G = some (.ok (.own (.lst ((linesOf rs).map tupI))), G) := by
  unfold m__law_lines
  rw [fnM_o]
  have hR : Rk (rs.length : Int) := rk_nat (by omega)
  have z2 : 2 ≤ sz := by decide
  simp [b__law_lines, hR, hR0]
  generalize hF : forL _ _ _ _ = F
  obtain ⟨s', rfl, v2, v3, rfl⟩ := forL_at hF (fun i s => ∃ v2 v3, s = ⟨[.val R, .own (.lst (((List.range i).flatMap (linesFrom rs)).map tupI)), v2, v3, .non], G⟩) ⟨.non, .non, by simp⟩ (by
    rintro i hi s ⟨v2, v3, rfl⟩
    simp [rngW] at hi
    have hA : ((List.range i).flatMap (linesFrom rs)).length ≤ i * rs.length := by
      rw [List.length_flatMap]
      have : ∀ l : List Nat, (l.map fun s => (linesFrom rs s).length).sum ≤ l.length * rs.length := by
        intro l
        induction l with
        | nil => simp
        | cons x l ih =>
          have : (linesFrom rs x).length ≤ rs.length := by
            unfold linesFrom
            rw [List.length_map]
            exact Nat.le_trans (List.length_filter_le _ _) (by simp)
          simp only [List.map_cons, List.sum_cons, List.length_cons]
          rw [Nat.succ_mul]
          omega
      have h := this (List.range i)
      simpa using h
    have hA2 : i * rs.length ≤ 1000 * 1000 := Nat.mul_le_mul (by omega) hl
    have e1 : (List.range (i + 1)).flatMap (linesFrom rs) = (List.range i).flatMap (linesFrom rs) ++ linesFrom rs i := by
      rw [List.range_succ, List.flatMap_append]; simp
    rw [e1]
    generalize (List.range i).flatMap (linesFrom rs) = A at hA
    simp [rngW, hR, hR0]
    generalize hF2 : forL _ _ _ _ = F2
    obtain ⟨s', rfl, v3', rfl⟩ := forL_at hF2 (fun j s => ∃ v3, s = ⟨[.val R, .own (.lst ((A ++ ((List.range j).filter fun t => lineB rs i t).map fun (t : Nat) => [(i : Int), (t : Int)]).map tupI)), .val (.int i), v3, .non], G⟩) ⟨v3, by simp⟩ (by
      rintro j hj s ⟨v3, rfl⟩
      simp [rngW] at hj
      have ei : atI (rs.map e) (i : Int) = some (e rs[i]) := atI_nat (by simp [hi])
      have ej : atI (rs.map e) (j : Int) = some (e rs[j]) := atI_nat (by simp [hj])
      have e2 : ∀ k, fIn false (.int k) (e rs[j]) = some (.imm (.bl (decide (k ∈ rs[j]) != false))) := fun k => he.inn false k _
      have hB : ((List.range j).filter fun t => lineB rs i t).length ≤ j := Nat.le_trans (List.length_filter_le _ _) (by simp)
      have e3 : ((List.range (j + 1)).filter fun t => lineB rs i t) = ((List.range j).filter fun t => lineB rs i t) ++ (if lineB rs i j then [j] else []) := by
        rw [List.range_succ, List.filter_append]
        congr 1
        cases hz : lineB rs i j <;> simp [hz]
      rw [e3]
      generalize hB2 : ((List.range j).filter fun t => lineB rs i t) = B at hB
      generalize hC : A ++ (B.map fun (t : Nat) => [(i : Int), (t : Int)]) = C
      have hlC : C.length < sz := by rw [← hC]; show _ < 16777216; simp; omega
      have hlc : lcL [4] (tgN 4) (mB (mBin (fIn false) (mName 4) (mBin fIx (mName 0) (mName 3)))) (mName 4) ⟨rs[i].map W.int, none⟩ (rs[i].map W.int) [] ⟨[.val R, .own (.lst (C.map tupI)), .val (.int i), .val (.int j), .non], G⟩ =
          some (.ok (.own (.lst ((sharedOf rs[i] rs[j]).map W.int))), ⟨[.val R, .own (.lst (C.map tupI)), .val (.int i), .val (.int j), .non], G⟩) := by
        rw [lc_pure (by exact trivial) (fun k => decide (k ∈ rs[j])) W.int]
        · simp [sharedOf]
        · intro k _
          exact ⟨⟨[.val R, .own (.lst (C.map tupI)), .val (.int i), .val (.int j), .val (.int k)], G⟩, by simp [ej, he.look, e2, hR0], fun _ => ⟨⟨[.val R, .own (.lst (C.map tupI)), .val (.int i), .val (.int j), .val (.int k)], G⟩, by simp, by simp⟩, fun _ => by simp⟩
        · have := h8 _ (List.getElem_mem hi)
          show _ ≤ 16777216
          simp; omega
      have hne : fNeD (.lst ((sharedOf rs[i] rs[j]).map W.int)) (.lst []) = some (.imm (.bl (decide (sharedOf rs[i] rs[j] ≠ [])))) := fNeD_emb (emb_lst emb_int) (by decide) (sharedOf rs[i] rs[j]) []
      have hb : lineB rs i j = (decide (i ≠ j) && common rs[i] rs[j]) := by simp [lineB, hi, hj]
      have hlm : (C.map tupI).length < sz := by simpa using hlC
      by_cases hij : i = j
      · have hb' : lineB rs i j = false := by rw [hb]; simp [hij]
        refine ⟨⟨[.val R, .own (.lst (C.map tupI)), .val (.int i), .val (.int j), .non], G⟩, by simp [rngW, fNeD_i, hij], .val (.int j), ?_⟩
        rw [hb']
        simp only [Bool.false_eq_true, if_false, List.append_nil]
        rw [hC]
      · have hij' : ¬ (i : Int) = j := by omega
        cases hcm : common rs[i] rs[j] with
        | false =>
          have hb' : lineB rs i j = false := by rw [hb, hcm]; simp
          have hs := shared_nil.mpr hcm
          have hne0 : fNeD (.lst []) (.lst []) = some (.imm (.bl false)) := rfl
          refine ⟨⟨[.val R, .own (.lst (C.map tupI)), .val (.int i), .val (.int j), .non], G⟩, by simp [rngW, fNeD_i, hij', ei, hR0, he.walk, he.look, hlc, hne, hs, hne0], .val (.int j), ?_⟩
          rw [hb']
          simp only [Bool.false_eq_true, if_false, List.append_nil]
          rw [hC]
        | true =>
          have hb' : lineB rs i j = true := by rw [hb, hcm]; simp [hij]
          have hs : ¬ sharedOf rs[i] rs[j] = [] := fun z => by rw [shared_nil.mp z] at hcm; cases hcm
          refine ⟨⟨[.val R, .own (.lst (C.map tupI ++ [.tup [.int i, .int j]])), .val (.int i), .val (.int j), .non], G⟩, by simp [rngW, fNeD_i, hij', ei, hR0, he.walk, he.look, hlc, hne, hs, z2, fAppend, hlC], .val (.int j), ?_⟩
          rw [hb']
          simp only [if_true, List.map_append]
          rw [← hC]
          simp [tupI])
    refine ⟨_, rfl, .val (.int i), v3', ?_⟩
    simp [rngW, linesFrom])
  simp [rngW, linesOf]
theorem x_law_linesE {e : List Int → W} (he : RowE e) (rs : List (List Int)) (hl : rs.length ≤ 1000) (h8 : ∀ xs ∈ rs, xs.length ≤ 8) (G : List Cell) : m__law_lines [.lst (rs.map e)] G = some (.ok (.own (.lst ((linesOf rs).map tupI))), G) := x_law_linesR he rs hl h8 G fun _ => rfl
theorem x_law_lines (rs : List (List Int)) (hl : rs.length ≤ 1000) (h8 : ∀ xs ∈ rs, xs.length ≤ 8) (G : List Cell) : m__law_lines [.lst (rs.map lstI)] G = some (.ok (.own (.lst ((linesOf rs).map tupI))), G) := x_law_linesE rowE_lst rs hl h8 G
end Z
set_option linter.all false
set_option maxRecDepth 100000
set_option maxHeartbeats 1000000
namespace Z
open PySem PySem.Spec PyProof.Rows L2
def layC (rs : List (List Int)) : Cell := .ins "Layout" [("rows", .lst (rs.map tupI)), ("masks", .lst (rs.map fun xs => W.int (mask xs)))]
@[simp high] theorem layC_toW {rs : List (List Int)} : (layC rs).toW = lay rs := rfl
theorem x_layout {r : List SV} {G : List Cell} {rs : List (List Int)} (hc : ∀ xs ∈ rs, canon xs = xs) (h1 : 1 ≤ rs.length) (h6 : rs.length ≤ 6) : makeG "Layout" m_Layout___init__ [.lst (rs.map lstI)] ⟨r, G⟩ = some (.ok (.own (layC rs)), ⟨r, G⟩) :=
  x_makeL (canon_map hc) h1 h6 (canon_k8 hc)
theorem lc_copy {st : SV → S} {i : Nat} {kk : Wk} (rs : List (List Int)) (hl : rs.length ≤ 6) (hk : kk.ok (st .non)) (ht : ∀ v, tgN i v (st .non) = some (.ok (), st (.val v))) (hw : ∀ v, wipeS [i] (st v) = st .non) (hy : ∀ v, mYes (st v) = some (.ok true, st v))
    (he : ∀ xs, (bnd (mCB fList (mCons (mName i) mNil)) fun y => freeze (settle y)) (st (.val (lstI xs))) = some (.ok (lstI xs), st (.val (lstI xs)))) :
    lcL [i] (tgN i) mYes (mCB fList (mCons (mName i) mNil)) kk (rs.map lstI) [] (st .non) = some (.ok (.own (.lst (rs.map lstI))), st .non) := by
  have key := lc_all (s := st .non) (k := kk) (vs := [i]) (t := tgN i) (tt := mYes) (me := mCB fList (mCons (mName i) mNil)) (e := lstI) hk lstI rs [] (fun t m => ⟨st (.val (lstI t)), by rw [bnd_at (ht _)]; exact hy _, st (.val (lstI t)), he _, hw _⟩) (by show 0 + rs.length ≤ 16777216; omega)
  rw [List.nil_append] at key
  exact key
theorem fList_lstI {xs : List Int} : fList [lstI xs] = some (.newl (xs.map W.int)) := rfl
theorem lstI_w {xs : List Int} : W.lst (xs.map W.int) = lstI xs := rfl
def lineI (rs : List (List Int)) (s t : Int) : Bool := decide (0 ≤ s ∧ s < rs.length ∧ 0 ≤ t ∧ t < rs.length) && lineB rs s.toNat t.toNat
theorem mem_lines {rs : List (List Int)} {x : List Int} : x ∈ linesOf rs ↔ ∃ s t, x = [s, t] ∧ lineI rs s t = true := by
  unfold linesOf linesFrom lineI
  simp only [List.mem_flatMap, List.mem_map, List.mem_filter, List.mem_range, Bool.and_eq_true, decide_eq_true_eq]
  constructor
  · rintro ⟨s, hs, t, ⟨ht, hb⟩, rfl⟩
    exact ⟨s, t, rfl, ⟨by omega, by omega, by omega, by omega⟩, by simpa using hb⟩
  · rintro ⟨s, t, rfl, ⟨h1, h2, h3, h4⟩, hb⟩
    exact ⟨s.toNat, by omega, t.toNat, ⟨by omega, hb⟩, by rw [Int.toNat_of_nonneg h1, Int.toNat_of_nonneg h3]⟩
theorem mem_line {rs : List (List Int)} {s t : Int} : [s, t] ∈ linesOf rs ↔ lineI rs s t = true := by
  rw [mem_lines]
  constructor
  · rintro ⟨a, b, e, h⟩
    cases e
    exact h
  · exact fun h => ⟨s, t, rfl, h⟩
theorem line_ne {rs : List (List Int)} {s t : Int} (h : lineI rs s t = true) : s ≠ t := by
  unfold lineI lineB at h
  simp only [Bool.and_eq_true, decide_eq_true_eq] at h
  rintro rfl
  exact h.2.1 rfl
theorem line_rng {rs : List (List Int)} {s t : Int} (h : lineI rs s t = true) : 0 ≤ s ∧ s < rs.length ∧ 0 ≤ t ∧ t < rs.length := by
  unfold lineI at h
  simp only [Bool.and_eq_true, decide_eq_true_eq] at h
  exact h.1
theorem lines_le {rs : List (List Int)} (h : rs.length ≤ 6) : (linesOf rs).length ≤ 36 := by
  have := lines_len rs
  have := Nat.mul_le_mul h h
  omega
end Z
set_option linter.all false
set_option maxRecDepth 100000
set_option maxHeartbeats 2000000
namespace Z
open PySem PySem.Spec PyProof.Rows L2
def fullB (rs : List (List Int)) (t : List Int) : Bool := decide (t.getD 0 0 < rs.length) && lineI rs (t.getD 1 0) (t.getD 2 0)
def fullL (rs : List (List Int)) (l : List Int) : List (List Int) := ((List.range rs.length).filter fun (c : Nat) => decide ((c : Int) ∈ l) != true).map fun (c : Nat) => [(c : Int), l.getD 0 0, l.getD 1 0]
def fullA (rs : List (List Int)) : List (List Int) := (linesOf rs).flatMap (fullL rs)
theorem fullL_len (rs : List (List Int)) (l : List Int) : (fullL rs l).length ≤ rs.length := by
  unfold fullL
  rw [List.length_map]
  exact Nat.le_trans (List.length_filter_le _ _) (by simp)
theorem mem_fullA {rs : List (List Int)} {x : List Int} : x ∈ fullA rs ↔ ∃ (c : Nat) (s t : Int), x = [(c : Int), s, t] ∧ c < rs.length ∧ lineI rs s t = true ∧ (c : Int) ≠ s ∧ (c : Int) ≠ t := by
  unfold fullA
  rw [List.mem_flatMap]
  constructor
  · rintro ⟨l, hl, hx⟩
    obtain ⟨s, t, rfl, h⟩ := mem_lines.mp hl
    unfold fullL at hx
    simp at hx
    obtain ⟨c, ⟨h1, h2, h3⟩, rfl⟩ := hx
    exact ⟨c, s, t, rfl, h1, h, h2, h3⟩
  · rintro ⟨c, s, t, rfl, h1, h, h2, h3⟩
    refine ⟨[s, t], mem_lines.mpr ⟨s, t, rfl, h⟩, ?_⟩
    refine List.mem_map.mpr ⟨c, List.mem_filter.mpr ⟨List.mem_range.mpr h1, ?_⟩, rfl⟩
    simp
    exact ⟨h2, h3⟩
theorem trip_mem {t : List Int} : t ∈ every ↔ ∃ a b c : Nat, t = [(a : Int), (b : Int), (c : Int)] ∧ a < 6 ∧ b < 6 ∧ c < 6 ∧ a ≠ b ∧ a ≠ c ∧ b ≠ c := by
  refine ⟨every_mem, ?_⟩
  rintro ⟨a, b, c, rfl, ha, hb, hc, h1, h2, h3⟩
  refine List.mem_filter.mpr ⟨?_, ?_⟩
  · simp only [cube, List.mem_flatMap, List.mem_map, List.mem_range]
    exact ⟨a, ha, b, hb, c, hc, rfl⟩
  · simp [okT]
    omega
theorem fullA_sub {rs : List (List Int)} (h6 : rs.length ≤ 6) : ∀ t ∈ fullA rs, t ∈ every := fun x hx => by
  obtain ⟨c, s, t, rfl, h1, h, h2, h3⟩ := mem_fullA.mp hx
  obtain ⟨r1, r2, r3, r4⟩ := line_rng h
  have r5 := line_ne h
  obtain ⟨s, rfl⟩ := Int.eq_ofNat_of_zero_le r1
  obtain ⟨t, rfl⟩ := Int.eq_ofNat_of_zero_le r3
  exact trip_mem.mpr ⟨c, s, t, rfl, by omega, by omega, by omega, by omega, by omega, by omega⟩
theorem full_asc {rs : List (List Int)} (h6 : rs.length ≤ 6) : asc (fullA rs) = every.filter (fullB rs) := asc_of fun x => by
  constructor
  · intro hx
    refine ⟨fullA_sub h6 x hx, ?_⟩
    obtain ⟨c, s, t, rfl, h1, h, h2, h3⟩ := mem_fullA.mp hx
    simp [fullB, h]
    omega
  · rintro ⟨he, hb⟩
    obtain ⟨a, b, c, rfl, ha, hb', hc, h1, h2, h3⟩ := trip_mem.mp he
    simp [fullB] at hb
    exact mem_fullA.mpr ⟨a, b, c, rfl, by omega, hb.2, by omega, by omega⟩
theorem flatMap_len {α β : Type} {f : α → List β} {k : Nat} (h : ∀ x, (f x).length ≤ k) : ∀ l : List α, (l.flatMap f).length ≤ k * l.length
  | [] => by simp
  | x :: l => by
    rw [List.flatMap_cons, List.length_append, List.length_cons, Nat.mul_succ]
    have := h x
    have := flatMap_len h l
    omega
theorem fullA_len {rs : List (List Int)} (h6 : rs.length ≤ 6) : (fullA rs).length ≤ 216 := by
  have h := flatMap_len (fun l => Nat.le_trans (fullL_len rs l) h6) (linesOf rs)
  have := lines_le h6
  unfold fullA
  omega
theorem fullA_cts {rs : List (List Int)} (h6 : rs.length ≤ 6) : Cts (fullA rs) := ⟨fullA_sub h6, by have := fullA_len h6; omega⟩
theorem take_flat {α β : Type} {f : α → List β} {l : List α} {i : Nat} (hi : i < l.length) : (l.take (i + 1)).flatMap f = (l.take i).flatMap f ++ f l[i] := by
  rw [List.take_succ_eq_append_getElem hi, List.flatMap_append]
  simp
theorem lc_full (rs : List (List Int)) (h6 : rs.length ≤ 6) (x0 x2 : SV) (s t : Int) (G : List Cell) : lcL [5] (tgN 5) (mB (mBin (fIn true) (mName 5) (mTup (mCons (mName 3) (mCons (mName 4) mNil))))) (mTup (mCons (mName 5) (mCons (mName 3) (mCons (mName 4) mNil)))) ⟨rngW 0 rs.length, none⟩ (rngW 0 rs.length) [] ⟨[x0, .val (lay rs), x2, .val (.int s), .val (.int t), .non], G⟩ =
    some (.ok (.own (.lst ((fullL rs [s, t]).map tupI))), ⟨[x0, .val (lay rs), x2, .val (.int s), .val (.int t), .non], G⟩) := by
  have fi : ∀ c : Int, fIn true (.int c) (.tup [.int s, .int t]) = some (.imm (.bl (decide (c ∈ [s, t]) != true))) := fun c => fIn_tupI true c [s, t]
  have z2 : 2 ≤ sz := by decide
  have z3 : 3 ≤ sz := by decide
  have key := lc_pure (s := ⟨[x0, .val (lay rs), x2, .val (.int s), .val (.int t), .non], G⟩) (k := ⟨rngW 0 rs.length, none⟩) (vs := [5]) (t := tgN 5) (tt := mB (mBin (fIn true) (mName 5) (mTup (mCons (mName 3) (mCons (mName 4) mNil))))) (me := mTup (mCons (mName 5) (mCons (mName 3) (mCons (mName 4) mNil)))) (e := fun (k : Nat) => W.int (0 + (k : Int))) trivial
    (fun (c : Nat) => decide ((c : Int) ∈ [s, t]) != true) (fun (c : Nat) => tupI [(c : Int), s, t]) (List.range rs.length) [] (fun c hc => ⟨⟨[x0, .val (lay rs), x2, .val (.int s), .val (.int t), .val (.int c)], G⟩, by simp [fi, z2], fun _ => ⟨⟨[x0, .val (lay rs), x2, .val (.int s), .val (.int t), .val (.int c)], G⟩, by simp [z3, tupI], by simp⟩, fun _ => by simp⟩) (by rw [List.length_range]; show 0 + _ ≤ 16777216; omega)
  rw [List.nil_append] at key
  conv => lhs; arg 6; rw [rng_map]
  rw [key]
  unfold fullL
  rw [List.map_map]
  rfl
theorem x_full (rs : List (List Int)) (hc : ∀ xs ∈ rs, canon xs = xs) (h6 : rs.length ≤ 6) (G : List Cell) : m_Book_full [lay rs] G = some (.ok (.own (bkC (every.filter (fullB rs)))), G) := by
  show outF (b_Book_full ⟨[.exc ⟨"Book", []⟩, .val (lay rs), .non, .non, .non, .non], G⟩) = _
  have lns := x_lines rs hc (by omega) G
  have lk : Lk (rs.length : Int) := lk_nat (by omega)
  have rk : Rk (rs.length : Int) := rk_nat (by omega)
  have mk := fun r => xr_make (r := r) (G := G) (R := .lst ((fullA rs).map tupI)) (fullA rs) (fullA_cts h6) (.inl rfl)
  rw [full_asc h6] at mk
  simp [b_Book_full, lns]
  generalize hF : forL _ _ _ _ = F
  obtain ⟨s', rfl, acc, v3, v4, rfl, ha⟩ := forL_at hF (fun i st => ∃ acc v3 v4, st = ⟨[.exc ⟨"Book", []⟩, .val (lay rs), .own (.lst (acc.map tupI)), v3, v4, .non], G⟩ ∧ Is acc (((linesOf rs).take i).flatMap (fullL rs))) ⟨[], .non, .non, rfl, rfl⟩ (by
    rintro i hi st ⟨acc, v3, v4, rfl, ha⟩
    have hi : i < (linesOf rs).length := by simpa using hi
    have hm : (linesOf rs)[i] ∈ linesOf rs := List.getElem_mem hi
    have ew : (List.map tupI (linesOf rs))[i]'(by simpa using hi) = tupI (linesOf rs)[i] := by simp
    rw [ew]
    have step : Is (acc ++ fullL rs (linesOf rs)[i]) (((linesOf rs).take (i + 1)).flatMap (fullL rs)) := by
      show _ = _
      rw [take_flat hi, ha.eq]
    have la : acc.length ≤ 6 * 36 := by
      rw [ha.eq]
      have h := flatMap_len (fun l => Nat.le_trans (fullL_len rs l) h6) ((linesOf rs).take i)
      have := List.length_take_le i (linesOf rs)
      have := lines_le h6
      omega
    generalize (linesOf rs)[i] = l at hm step
    obtain ⟨s, t, rfl, _⟩ := mem_lines.mp hm
    have lc := lc_full rs h6 (.exc ⟨"Book", []⟩) (.own (.lst (acc.map tupI))) s t G
    have ll : (fullL rs [s, t]).length ≤ 6 := Nat.le_trans (fullL_len rs _) h6
    have lz : acc.length + (fullL rs [s, t]).length ≤ sz := by show _ ≤ 16777216; omega
    refine ⟨⟨[.exc ⟨"Book", []⟩, .val (lay rs), .own (.lst ((acc ++ fullL rs [s, t]).map tupI)), .val (.int s), .val (.int t), .non], G⟩, ?_, _, _, _, rfl, step⟩
    generalize fullL rs [s, t] = fl at lc lz
    have wt : tupI [s, t] = .tup [.int s, .int t] := rfl
    simp [wt, x_len, lk, rk, lc, lz])
  have e : acc = fullA rs := by
    have := ha.eq
    rw [List.length_map, List.take_length] at this
    exact this
  subst e
  simp [mMakeX, mk]
def BksR (G : List Cell) (ws : List W) (tss : List (List (List Int))) : Prop := ws.length = tss.length ∧ ∀ (i : Nat) w ts, ws[i]? = some w → tss[i]? = some ts → BkR G w ts
theorem BksR.nil {G : List Cell} : BksR G [] [] := ⟨rfl, fun i w ts h => by simp at h⟩
theorem BksR.cons {G : List Cell} {w : W} {ws : List W} {ts : List (List Int)} {tss : List (List (List Int))} (h : BkR G w ts) (r : BksR G ws tss) : BksR G (w :: ws) (ts :: tss) := ⟨by simp [r.1], fun i a b ha hb => by
  cases i with
  | zero => simp at ha hb; subst ha; subst hb; exact h
  | succ i => exact r.2 i a b (by simpa using ha) (by simpa using hb)⟩
theorem take_flat0 {β : Type} {l : List (List β)} {i : Nat} (hi : i < l.length) : (l.take (i + 1)).flatten = (l.take i).flatten ++ l[i] := by
  rw [List.take_succ_eq_append_getElem hi, List.flatten_append]
  simp
theorem flat_take_len {β : Type} : ∀ (l : List (List β)) (i : Nat), (l.take i).flatten.length ≤ l.flatten.length
  | [], i => by simp
  | x :: l, 0 => by simp
  | x :: l, i + 1 => by
    have := flat_take_len l i
    simp only [List.take_succ_cons, List.flatten_cons, List.length_append]
    omega
theorem x_joined {ws : List W} {tss : List (List (List Int))} {G : List Cell} (h : BksR G ws tss) (c : Cts tss.flatten) : m_joined [.tup ws] G = some (.ok (.own (bkC (asc tss.flatten))), G) := by
  unfold m_joined
  rw [fnM_e]
  have mk := fun r => xr_make (r := r) (G := G) (R := .lst (tss.flatten.map tupI)) tss.flatten c (.inl rfl)
  have l1 := c.len
  simp [b_joined]
  generalize hF : forL _ _ _ _ = F
  obtain ⟨s', rfl, acc, v2, rfl, ha⟩ := forL_at hF (fun i st => ∃ acc v2, st = ⟨[.val (.tup ws), .own (.lst (acc.map tupI)), v2], G⟩ ∧ Is acc (tss.take i).flatten) ⟨[], .non, rfl, rfl⟩ (by
    rintro i hi st ⟨acc, v2, rfl, ha⟩
    have hi' : i < tss.length := by rw [← h.1]; exact hi
    have L := (h.2 i ws[i] tss[i] (by simp [hi]) (by simp [hi'])).look
    have step : Is (acc ++ tss[i]) ((tss.take (i + 1)).flatten) := by
      show _ = _
      rw [take_flat0 hi', ha.eq]
    have lz : acc.length + (tss[i]).length ≤ sz := by
      have h1 := congrArg List.length step.eq
      rw [List.length_append] at h1
      have := flat_take_len tss (i + 1)
      show _ ≤ 16777216
      omega
    refine ⟨⟨[.val (.tup ws), .own (.lst ((acc ++ tss[i]).map tupI)), .val ws[i]], G⟩, ?_, _, _, rfl, step⟩
    generalize tss[i] = ts at L lz
    generalize ws[i] = w at L
    simp [L, rowsD_keysT, lz])
  have e : acc = tss.flatten := by
    have := ha.eq
    rw [h.1, List.take_length] at this
    exact this
  subst e
  generalize tss.flatten = A at mk
  simp [mk]
def pairsAt (ts : List (List Int)) (c : Int) : List (List Int) := (ts.filter fun t => decide (t.getD 0 0 = c)).map fun t => [t.getD 1 0, t.getD 2 0]
theorem pairs_len (ts : List (List Int)) (c : Int) : (pairsAt ts c).length ≤ ts.length := by
  unfold pairsAt
  rw [List.length_map]
  exact List.length_filter_le _ _
theorem pairs_two {ts : List (List Int)} {c : Int} : ∀ xs ∈ pairsAt ts c, xs.length = 2 := fun xs h => by
  unfold pairsAt at h
  obtain ⟨t, _, rfl⟩ := List.mem_map.mp h
  rfl
theorem x_lines_of {w : W} {ts : List (List Int)} {G : List Cell} (h : BkR G w ts) (c : Cts ts) (k : Int) : m_Book_lines_of [w, .int k] G = some (.ok (.own (.lst ((pairsAt ts k).map tupI))), G) := by
  unfold m_Book_lines_of
  rw [fnM_e]
  have L := h.look
  have z2 : 2 ≤ sz := by decide
  have lc : lcL [2, 3, 4] (tgT 3 (tgsCons (tgN 2) (tgsCons (tgN 3) (tgsCons (tgN 4) tgsNil)))) (mB (mBin fEqD (mName 2) (mName 1))) (mTup (mCons (mName 3) (mCons (mName 4) mNil))) ⟨ts.map tupI, none⟩ (ts.map tupI) [] ⟨[.val w, .val (.int k), .non, .non, .non], G⟩ =
      some (.ok (.own (.lst ((pairsAt ts k).map tupI))), ⟨[.val w, .val (.int k), .non, .non, .non], G⟩) := by
    have key := lc_pure (s := ⟨[.val w, .val (.int k), .non, .non, .non], G⟩) (k := ⟨ts.map tupI, none⟩) (vs := [2, 3, 4]) (t := tgT 3 (tgsCons (tgN 2) (tgsCons (tgN 3) (tgsCons (tgN 4) tgsNil)))) (tt := mB (mBin fEqD (mName 2) (mName 1))) (me := mTup (mCons (mName 3) (mCons (mName 4) mNil))) (e := tupI) trivial
      (fun t => decide (t.getD 0 0 = k)) (fun t => tupI [t.getD 1 0, t.getD 2 0]) ts [] (fun t m => by
        obtain ⟨a, b, d, rfl, _⟩ := every_mem (c.sub t m)
        exact ⟨⟨[.val w, .val (.int k), .val (.int a), .val (.int b), .val (.int d)], G⟩, by simp [tupI, fEqD_i], fun _ => ⟨⟨[.val w, .val (.int k), .val (.int a), .val (.int b), .val (.int d)], G⟩, by simp [tupI, z2], by simp⟩, fun _ => by simp⟩) (by simpa using c.sz)
    rw [List.nil_append] at key
    rw [key]
    unfold pairsAt
    rw [List.map_map]
    rfl
  simp [b_Book_lines_of, L, rowsD_keysT, lc]
theorem x_pairs_of {ts : List (List Int)} (c : Cts ts) (k : Int) (G : List Cell) : m__law_pairs_of [.lst (ts.map tupI), .int k] G = some (.ok (.own (.lst ((pairsAt ts k).map tupI))), G) := by
  unfold m__law_pairs_of
  rw [fnM_e]
  have z2 : 2 ≤ sz := by decide
  have lc : lcL [2] (tgN 2) (mB (mBin fEqD (mBin fIx (mName 2) (mC (.int 0))) (mName 1))) (mTup (mCons (mBin fIx (mName 2) (mC (.int 1))) (mCons (mBin fIx (mName 2) (mC (.int 2))) mNil))) ⟨ts.map tupI, none⟩ (ts.map tupI) [] ⟨[.val (.lst (ts.map tupI)), .val (.int k), .non], G⟩ =
      some (.ok (.own (.lst ((pairsAt ts k).map tupI))), ⟨[.val (.lst (ts.map tupI)), .val (.int k), .non], G⟩) := by
    have key := lc_pure (s := ⟨[.val (.lst (ts.map tupI)), .val (.int k), .non], G⟩) (k := ⟨ts.map tupI, none⟩) (vs := [2]) (t := tgN 2) (tt := mB (mBin fEqD (mBin fIx (mName 2) (mC (.int 0))) (mName 1))) (me := mTup (mCons (mBin fIx (mName 2) (mC (.int 1))) (mCons (mBin fIx (mName 2) (mC (.int 2))) mNil))) (e := tupI) trivial
      (fun t => decide (t.getD 0 0 = k)) (fun t => tupI [t.getD 1 0, t.getD 2 0]) ts [] (fun t m => by
        obtain ⟨a, b, d, rfl, _⟩ := every_mem (c.sub t m)
        have i0 : atI [W.int a, W.int b, W.int d] 0 = some (.int a) := atI_nat (j := 0) rfl
        have i1 : atI [W.int a, W.int b, W.int d] 1 = some (.int b) := atI_nat (j := 1) rfl
        have i2 : atI [W.int a, W.int b, W.int d] 2 = some (.int d) := atI_nat (j := 2) rfl
        exact ⟨⟨[.val (.lst (ts.map tupI)), .val (.int k), .val (tupI [a, b, d])], G⟩, by simp [tupI, i0, fEqD_i], fun _ => ⟨⟨[.val (.lst (ts.map tupI)), .val (.int k), .val (tupI [a, b, d])], G⟩, by simp [tupI, i1, i2, z2], by simp⟩, fun _ => by simp⟩) (by simpa using c.sz)
    rw [List.nil_append] at key
    rw [key]
    unfold pairsAt
    rw [List.map_map]
    rfl
  simp [b__law_pairs_of, lc]
end Z
set_option linter.all false
set_option maxRecDepth 100000
set_option maxHeartbeats 4000000
namespace Z
open PySem PySem.Spec PyProof.Rows L2
def gW (p : List Int → Bool) : W := .lst ((every.filter p).map tupI)
theorem gW_w (p : List Int → Bool) : W.lst ((every.filter p).map tupI) = gW p := rfl
section
variable {s : S} {r : List SV} {G : List Cell} {p : List Int → Bool} {ms : Mo (List RV)} {m : Fn}
@[simp] theorem deref_gW : derefW s (gW p) = some (gW p) := rfl
@[simp] theorem look_gW : look (.val (gW p)) ⟨r, G⟩ = some (.ok (gW p), ⟨r, G⟩) := rfl
@[simp] theorem mCallV_e : mCallV m ms ⟨r, G⟩ = bnd ms (fun xs => bnd (freezeAll xs) fun ws => if ws.length ≤ sz then quiet (callG m [.tup ws]) else stk) ⟨r, G⟩ := rfl
end
theorem trip_at : ∀ n, n ≤ 6 → trip n = every.filter fun t => decide (t.getD 0 0 < (n : Int)) && (decide (t.getD 1 0 < (n : Int)) && decide (t.getD 2 0 < (n : Int))) := by
  intro n h
  have : n = 0 ∨ n = 1 ∨ n = 2 ∨ n = 3 ∨ n = 4 ∨ n = 5 ∨ n = 6 := by omega
  rcases this with rfl | rfl | rfl | rfl | rfl | rfl | rfl <;> with_unfolding_all decide +kernel
theorem trip_full {rs : List (List Int)} (h6 : rs.length ≤ 6) : (trip rs.length).filter (fun t => decide ([t.getD 1 0, t.getD 2 0] ∈ linesOf rs)) = every.filter (fullB rs) := by
  rw [trip_at _ h6, List.filter_filter]
  refine List.filter_congr fun t m => ?_
  obtain ⟨a, b, c, rfl, _⟩ := every_mem m
  unfold fullB
  simp only [List.getD_cons_zero, List.getD_cons_succ]
  rw [Bool.eq_iff_iff]
  simp only [Bool.and_eq_true, decide_eq_true_eq, mem_line]
  constructor
  · rintro ⟨h, h1, _⟩; exact ⟨h1, h⟩
  · rintro ⟨h1, h⟩
    obtain ⟨_, r2, _, r4⟩ := line_rng h
    exact ⟨h, h1, r2, r4⟩
theorem tup_rows {e : List Int → W} (st : SV → S) {i : Nat} (rs : List (List Int)) (hl : rs.length ≤ 6) (ht : ∀ v, tgN i v (st .non) = some (.ok (), st (.val v))) (hw : ∀ v, wipeS [i] (st v) = st .non) (hy : ∀ v, mYes (st v) = some (.ok true, st v))
    (he : ∀ xs, (bnd (mCB fTuple (mCons (mName i) mNil)) fun y => freeze (settle y)) (st (.val (e xs))) = some (.ok (tupI xs), st (.val (e xs)))) :
    lcL [i] (tgN i) mYes (mCB fTuple (mCons (mName i) mNil)) ⟨rs.map e, none⟩ (rs.map e) [] (st .non) = some (.ok (.own (.lst (rs.map tupI))), st .non) := by
  have key := lc_all (s := st .non) (k := ⟨rs.map e, none⟩) (vs := [i]) (t := tgN i) (tt := mYes) (me := mCB fTuple (mCons (mName i) mNil)) (e := e) trivial tupI rs [] (fun t m => ⟨st (.val (e t)), by rw [bnd_at (ht _)]; exact hy _, st (.val (e t)), he _, hw _⟩) (by show 0 + rs.length ≤ 16777216; omega)
  rw [List.nil_append] at key
  exact key
theorem ev_lc (st : SV → S) {tt : Mo Bool} (q : List Int → Bool) (ht : ∀ v, tgN 18 v (st .non) = some (.ok (), st (.val v))) (hw : ∀ v, wipeS [18] (st v) = st .non) (h1 : ∀ t ∈ every, tt (st (.val (tupI t))) = some (.ok (q t), st (.val (tupI t))))
    (he : ∀ v, (bnd (mName 18) fun y => freeze (settle y)) (st (.val v)) = some (.ok v, st (.val v))) :
    lcL [18] (tgN 18) tt (mName 18) ⟨every.map tupI, none⟩ (every.map tupI) [] (st .non) = some (.ok (.own (.lst ((every.filter q).map tupI))), st .non) := lc_rows q every cts_every.sz trivial ht hw h1 he
section
variable {x0 : SV} {rs : List (List Int)} {p0 p1 : List Int → Bool} {far : Int}
theorem mid_ok (hc : ∀ xs ∈ rs, canon xs = xs) (h6 : rs.length ≤ 6) : law_t8 ⟨[x0, .val (.lst (rs.map lstI)), .own (.lst ((linesOf rs).map tupI)), .own (.lst ((every.filter ((fullB rs))).map tupI)), .own (.lst ((every.filter (p0)).map tupI)), .own (.lst ((every.filter (p1)).map tupI)), .val (.int far), .val (lay rs), .val (.ref 0), .non, .non, .non, .non, .non, .non, .non, .non, .non, .non, .non], [(bkC (every.filter ((fullB rs))))]⟩ =
    law_t14 ⟨[x0, .val (.lst (rs.map lstI)), .own (.lst ((linesOf rs).map tupI)), .val (gW (fullB rs)), .own (.lst ((every.filter (p0)).map tupI)), .own (.lst ((every.filter (p1)).map tupI)), .val (.int far), .val (lay rs), .val (.ref 0), .own (bkC (every.filter (p0))), .own (bkC (every.filter (p1))), .val (.lst (every.map tupI)), .own (.lst ((every.filter ((fun t => p0 t || p1 t))).map tupI)), .own (.lst ((every.filter ((fun t => (p0 t || p1 t) || fullB rs t))).map tupI)), .non, .non, .non, .non, .non, .non], [(bkC (every.filter ((fullB rs))))]⟩ := by
  have sm : m__law_same_book [.ref 0, gW (fullB rs)] [(bkC (every.filter ((fullB rs))))] = some (.ok (.val (.bl true)), [(bkC (every.filter ((fullB rs))))]) := xr_same (.at rfl) (cts_filter _)
  have sr := x_same rs (by omega) (fun xs hx => by have := canon_len8 hc xs hx; show _ ≤ 16777216; omega) [(bkC (every.filter ((fullB rs))))]
  have tp := tup_rows (e := lstI) (fun v => ⟨[x0, .val (.lst (rs.map lstI)), .own (.lst ((linesOf rs).map tupI)), .val (gW (fullB rs)), .own (.lst ((every.filter (p0)).map tupI)), .own (.lst ((every.filter (p1)).map tupI)), .val (.int far), .val (lay rs), .val (.ref 0), .non, .non, .non, .non, .non, .non, .non, .non, .non, .non, v], [(bkC (every.filter ((fullB rs))))]⟩) (i := 19) rs h6 (fun v => by simp) (fun v => by simp) (fun v => by simp) (fun xs => by
    have : fTuple [lstI xs] = some (.newt (xs.map W.int)) := rfl
    have w : W.tup (xs.map W.int) = tupI xs := rfl
    simp [this, w])
  have mk1 : ∀ (p : List Int → Bool) r G, makeG "Book" m_Book___init__ [gW p] ⟨r, G⟩ = some (.ok (.own (bkC (every.filter p))), ⟨r, G⟩) := fun p r G => by
    have := xr_make (r := r) (G := G) (every.filter p) (cts_filter p) (.inl rfl)
    rw [asc_sub] at this
    exact this
  have fl : ∀ p : List Int → Bool, fList [gW p] = some (.newl ((every.filter p).map tupI)) := fun p => rfl
  have tr : ∀ G, m__law_triples [.int 6] G = some (.ok (.own (.lst (every.map tupI))), G) := fun G => by
    have := x_triples 6 (by omega) G
    rw [trip_six] at this
    exact this
  have mem : ∀ (p : List Int → Bool) (t : List Int), t ∈ every → fIn false (tupI t) (gW p) = some (.imm (.bl (p t))) := fun p t m => by
    rw [show gW p = .lst ((every.filter p).map tupI) from rfl, mem_every p false m]
    simp
  have l12 := ev_lc (tt := mOr (mB (mBin (fIn false) (mName 18) (mName 4))) (mB (mBin (fIn false) (mName 18) (mName 5)))) (fun v => ⟨[x0, .val (.lst (rs.map lstI)), .own (.lst ((linesOf rs).map tupI)), .val (gW (fullB rs)), .own (.lst ((every.filter (p0)).map tupI)), .own (.lst ((every.filter (p1)).map tupI)), .val (.int far), .val (lay rs), .val (.ref 0), .own (bkC (every.filter (p0))), .own (bkC (every.filter (p1))), .val (.lst (every.map tupI)), .non, .non, .non, .non, .non, .non, v, .non], [(bkC (every.filter ((fullB rs))))]⟩) (fun t => p0 t || p1 t) (fun v => by simp) (fun v => by simp)
    (fun t m => by cases z : p0 t <;> simp [gW_w, mem _ t m, z]) (fun v => by simp)
  have l13 := ev_lc (tt := mOr (mB (mBin (fIn false) (mName 18) (mName 12))) (mB (mBin (fIn false) (mName 18) (mName 3)))) (fun v => ⟨[x0, .val (.lst (rs.map lstI)), .own (.lst ((linesOf rs).map tupI)), .val (gW (fullB rs)), .own (.lst ((every.filter (p0)).map tupI)), .own (.lst ((every.filter (p1)).map tupI)), .val (.int far), .val (lay rs), .val (.ref 0), .own (bkC (every.filter (p0))), .own (bkC (every.filter (p1))), .val (.lst (every.map tupI)), .own (.lst ((every.filter ((fun t => p0 t || p1 t))).map tupI)), .non, .non, .non, .non, .non, v, .non], [(bkC (every.filter ((fullB rs))))]⟩) (fun t => (p0 t || p1 t) || fullB rs t) (fun v => by simp) (fun v => by simp)
    (fun t m => by cases z : (p0 t || p1 t) <;> simp [gW_w, mem _ t m, z]) (fun v => by simp)
  have z6 : rs.length ≤ sz := by show _ ≤ 16777216; omega
  have ll : Lk (rs.length : Int) := lk_nat (by omega)
  simp [law_t8, law_s8, x_len, ll, law_t9, law_s9, law_t10, law_s10, law_t11, law_s11, law_t12, law_s12, law_t13, law_s13, gW_w, sm, sr, tp, mk1, fl, tr, l12, l13, z6]
theorem join_ok : law_t14 ⟨[x0, .val (.lst (rs.map lstI)), .own (.lst ((linesOf rs).map tupI)), .val (gW (fullB rs)), .own (.lst ((every.filter (p0)).map tupI)), .own (.lst ((every.filter (p1)).map tupI)), .val (.int far), .val (lay rs), .val (.ref 0), .own (bkC (every.filter (p0))), .own (bkC (every.filter (p1))), .val (.lst (every.map tupI)), .own (.lst ((every.filter ((fun t => p0 t || p1 t))).map tupI)), .own (.lst ((every.filter ((fun t => (p0 t || p1 t) || fullB rs t))).map tupI)), .non, .non, .non, .non, .non, .non], [(bkC (every.filter ((fullB rs))))]⟩ =
    law_t19 ⟨[x0, .val (.lst (rs.map lstI)), .own (.lst ((linesOf rs).map tupI)), .val (gW (fullB rs)), .val (gW p0), .val (gW p1), .val (.int far), .val (lay rs), .val (.ref 0), .val (book (every.filter p0)), .val (book (every.filter p1)), .val (.lst (every.map tupI)), .val (gW (fun t => p0 t || p1 t)), .val (gW (fun t => (p0 t || p1 t) || fullB rs t)), .val (.ref 2), .non, .non, .non, .non, .non], [(bkC (every.filter ((fullB rs)))), (bkC (every.filter (p0))), (bkC (every.filter ((fun t => p0 t || p1 t))))]⟩ := by
  have fl : ∀ p : List Int → Bool, (every.filter p).length ≤ 120 := fun p => by
    rw [← every_length]
    exact List.length_filter_le _ _
  have ct : ∀ a : List (List Int), (∀ t ∈ a, t ∈ every) → a.length ≤ 1000 → Cts a := fun a h1 h2 => ⟨h1, h2⟩
  have sub : ∀ (p : List Int → Bool) t, t ∈ every.filter p → t ∈ every := fun p t m => (List.mem_filter.mp m).1
  have j0 : ∀ G, m_joined [.tup []] G = some (.ok (.own (bkC [])), G) := fun G => by
    have := x_joined (G := G) .nil cts_nil
    have e : asc ([] : List (List (List Int))).flatten = [] := by
      have := asc_sub fun _ => false
      rw [fall_nil] at this
      exact this
    rw [e] at this
    exact this
  have j1 : ∀ G, m_joined [.tup [book (every.filter p0)]] G = some (.ok (.own (bkC (every.filter (p0)))), G) := fun G => by
    have := x_joined (G := G) (.cons (ts := every.filter p0) .val .nil) (ct _ (fun t m => sub p0 t (by simpa using m)) (by have := fl p0; simp; omega))
    rw [show ([every.filter p0] : List (List (List Int))).flatten = every.filter p0 by simp, asc_sub] at this
    exact this
  have j2 : ∀ G, m_joined [.tup [book (every.filter p0), book (every.filter p1)]] G = some (.ok (.own (bkC (every.filter ((fun t => p0 t || p1 t))))), G) := fun G => by
    have c : Cts ([every.filter p0, every.filter p1] : List (List (List Int))).flatten := ct _ (fun t m => by
      rw [show ([every.filter p0, every.filter p1] : List (List (List Int))).flatten = every.filter p0 ++ every.filter p1 by simp] at m
      exact (List.mem_append.mp m).elim (sub _ t) (sub _ t)) (by have := fl p0; have := fl p1; simp; omega)
    have := x_joined (G := G) (.cons (ts := every.filter p0) .val (.cons (ts := every.filter p1) .val .nil)) c
    rw [show ([every.filter p0, every.filter p1] : List (List (List Int))).flatten = every.filter p0 ++ every.filter p1 by simp, asc_or] at this
    exact this
  have j3 : ∀ c, m_joined [.tup [book (every.filter p1), book (every.filter p0), .ref 0]] [(bkC (every.filter ((fullB rs)))), c] = some (.ok (.own (bkC (every.filter ((fun t => (p0 t || p1 t) || fullB rs t))))), [(bkC (every.filter ((fullB rs)))), c]) := fun cc => by
    have ef : ([every.filter p1, every.filter p0, every.filter (fullB rs)] : List (List (List Int))).flatten = every.filter p1 ++ (every.filter p0 ++ every.filter (fullB rs)) := by simp
    have c : Cts ([every.filter p1, every.filter p0, every.filter (fullB rs)] : List (List (List Int))).flatten := by
      rw [ef]
      refine ct _ (fun t m => ?_) (by have := fl p0; have := fl p1; have := fl (fullB rs); simp; omega)
      rcases List.mem_append.mp m with m | m
      · exact sub _ t m
      · exact (List.mem_append.mp m).elim (sub _ t) (sub _ t)
    have := x_joined (G := [(bkC (every.filter ((fullB rs)))), cc]) (.cons (ts := every.filter p1) .val (.cons (ts := every.filter p0) .val (.cons (ts := every.filter (fullB rs)) (.at (n := 0) rfl) .nil))) c
    have ea : asc (every.filter p1 ++ (every.filter p0 ++ every.filter (fullB rs))) = every.filter (fun t => (p0 t || p1 t) || fullB rs t) := asc_of fun t => by
      simp only [List.mem_append, List.mem_filter, Bool.or_eq_true]
      constructor
      · rintro (⟨a, b⟩ | ⟨a, b⟩ | ⟨a, b⟩)
        · exact ⟨a, .inl (.inr b)⟩
        · exact ⟨a, .inl (.inl b)⟩
        · exact ⟨a, .inr b⟩
      · rintro ⟨a, (b | b) | b⟩
        · exact .inr (.inl ⟨a, b⟩)
        · exact .inl ⟨a, b⟩
        · exact .inr (.inr ⟨a, b⟩)
    rw [ef, ea] at this
    exact this
  have s0 : ∀ G, m__law_same_book [book [], .lst []] G = some (.ok (.val (.bl true)), G) := fun G => xr_same (ts := []) .val cts_nil
  have sv : ∀ (p : List Int → Bool) G, m__law_same_book [book (every.filter p), gW p] G = some (.ok (.val (.bl true)), G) := fun p G => xr_same .val (cts_filter p)
  have s1 : ∀ a : Cell, m__law_same_book [.ref 1, gW p0] [a, (bkC (every.filter (p0)))] = some (.ok (.val (.bl true)), [a, (bkC (every.filter (p0)))]) := fun a => xr_same (.at rfl) (cts_filter p0)
  have s2 : ∀ a b : Cell, m__law_same_book [.ref 2, gW (fun t => p0 t || p1 t)] [a, b, (bkC (every.filter ((fun t => p0 t || p1 t))))] = some (.ok (.val (.bl true)), [a, b, (bkC (every.filter ((fun t => p0 t || p1 t))))]) := fun a b => xr_same (.at rfl) (cts_filter _)
  have io : ∀ a b : Cell, m_Book___ior__ [.ref 2, book (every.filter p1)] [a, b, (bkC (every.filter (p0)))] = some (.ok (.val (.ref 2)), [a, b, (bkC (every.filter ((fun t => p0 t || p1 t))))]) := fun a b => by
    rw [xr_ior (n := 2) (ts := every.filter p0) (us := every.filter p1) rfl .val (cts_filter p0) (cts_filter p1) (by have := fl p0; have := fl p1; omega), asc_or]
    rfl
  have ow : ∀ r (a b : Cell), chkO "Book" [.own "Book"] [.ref 2, book (every.filter p1)] ⟨r, [a, b, (bkC (every.filter (p0)))]⟩ = some (.ok (), ⟨r, [a, b, (bkC (every.filter (p0)))]⟩) := fun r a b => BkR.own (ts := every.filter p0) (us := every.filter p1) (.at rfl) .val r
  have z0 : 0 ≤ sz := by decide
  have z1 : 1 ≤ sz := by decide
  have z2 : 2 ≤ sz := by decide
  have z3 : 3 ≤ sz := by decide
  simp [law_t14, law_s14, law_t15, law_s15, law_t16, law_s16, law_t17, law_s17, law_t18, law_s18, gW_w, j0, j1, j2, j3, s0, sv, s1, s2, io, ow, z1, z2, z3]
theorem end_ok (hc : ∀ xs ∈ rs, canon xs = xs) (h6 : rs.length ≤ 6) {x15 x17 : SV} : ∃ s', law_t23 ⟨[x0, .val (.lst (rs.map lstI)), .own (.lst ((linesOf rs).map tupI)), .val (gW (fullB rs)), .val (gW p0), .val (gW p1), .val (.int far), .val (lay rs), .val (.ref 0), .val (book (every.filter p0)), .val (book (every.filter p1)), .val (.lst (every.map tupI)), .val (gW (fun t => p0 t || p1 t)), .val (gW (fun t => (p0 t || p1 t) || fullB rs t)), .val (.ref 2), x15, .val (gW (fun t => p1 t && !p0 t)), x17, .non, .non], [(bkC (every.filter ((fullB rs)))), (bkC (every.filter (p0))), (bkC (every.filter ((fun t => p1 t && !p0 t))))]⟩ = some (.ok (.rt (.val (.bl true))), s') := by
  have sm : ∀ a b : Cell, m__law_same_book [.ref 0, gW (fullB rs)] [(bkC (every.filter ((fullB rs)))), a, b] = some (.ok (.val (.bl true)), [(bkC (every.filter ((fullB rs)))), a, b]) := fun a b => xr_same (.at rfl) (cts_filter _)
  have s3 : ∀ a b c : Cell, m__law_same_book [.ref 3, gW (fullB rs)] [a, b, c, (bkC (every.filter ((fullB rs))))] = some (.ok (.val (.bl true)), [a, b, c, (bkC (every.filter ((fullB rs))))]) := fun a b c => xr_same (.at rfl) (cts_filter _)
  have mk : ∀ r G, makeG "Book" m_Book___init__ [.lst (every.map tupI)] ⟨r, G⟩ = some (.ok (.own (bkC every)), ⟨r, G⟩) := fun r G => by
    have := xr_make (r := r) (G := G) every cts_every (.inl rfl)
    have e := asc_sub fun _ => true
    rw [every_all] at e
    rw [e] at this
    exact this
  have io : ∀ a b : Cell, m_Book___ior__ [.ref 0, book every] [(bkC (every.filter ((fullB rs)))), a, b] = some (.ok (.val (.ref 0)), [bkC every, a, b]) := fun a b => by
    have fl : (every.filter (fullB rs)).length ≤ 120 := by
      rw [← every_length]
      exact List.length_filter_le _ _
    rw [xr_ior (n := 0) (ts := every.filter (fullB rs)) (us := every) rfl .val (cts_filter _) cts_every (by rw [every_length]; omega)]
    have e : asc (every.filter (fullB rs) ++ every) = every := by
      have := asc_or (fullB rs) fun _ => true
      rw [every_all] at this
      rw [this]
      simp
    rw [e]
    rfl
  have ow : ∀ r (a b : Cell), chkO "Book" [.own "Book"] [.ref 0, book every] ⟨r, [(bkC (every.filter ((fullB rs)))), a, b]⟩ = some (.ok (), ⟨r, [(bkC (every.filter ((fullB rs)))), a, b]⟩) := fun r a b => BkR.own (ts := every.filter (fullB rs)) (us := every) (.at rfl) .val r
  have xf := fun G => x_full rs hc h6 G
  have ln : ∀ a b c : Cell, m_Book___len__ [.ref 0] [bkC every, a, b, c] = some (.ok (.val (.int 120)), [bkC every, a, b, c]) := fun a b c => by
    rw [xr_len (ts := every) (.at rfl), every_length]
    rfl
  have c0 : ∀ r (a b c : Cell), chk1 "Book" [.ref 0] ⟨r, [bkC every, a, b, c]⟩ = some (.ok (), ⟨r, [bkC every, a, b, c]⟩) := fun r a b c => BkR.chk1 (ts := every) (.at rfl) r
  have lk : Lk 120 := lk_nat (n := 120) (by omega)
  simp [law_t23, law_s23, law_t24, law_s24, law_t25, law_s25, gW_w, sm, s3, mk, io, ow, xf, ln, c0, lk, fEqD_i]
end
end Z
set_option linter.all false
set_option maxRecDepth 100000
set_option maxHeartbeats 4000000
namespace Z
open PySem PySem.Spec PyProof.Rows L2
section
variable {x0 : SV} {rs : List (List Int)} {p0 p1 : List Int → Bool} {far : Int}
theorem told_len (p : List Int → Bool) (c : Int) : (pairsAt (every.filter p) c).length ≤ 120 := by
  refine Nat.le_trans (pairs_len _ _) ?_
  rw [← every_length]
  exact List.length_filter_le _ _
theorem told_same (p : List Int → Bool) (c : Int) (G : List Cell) : m__law_same_rows [.lst ((pairsAt (every.filter p) c).map tupI), .lst ((pairsAt (every.filter p) c).map tupI)] G = some (.ok (.val (.bl true)), G) :=
  x_same _ (by have := told_len p c; omega) (fun xs h => by rw [pairs_two xs h]; show 2 ≤ 16777216; omega) G
theorem ask_ok (c : Int) {x17 : SV} : ∃ w17, law_s19b_t0 ⟨[x0, .val (.lst (rs.map lstI)), .own (.lst ((linesOf rs).map tupI)), .val (gW (fullB rs)), .val (gW p0), .val (gW p1), .val (.int far), .val (lay rs), .val (.ref 0), .val (book (every.filter p0)), .val (book (every.filter p1)), .val (.lst (every.map tupI)), .val (gW (fun t => p0 t || p1 t)), .val (gW (fun t => (p0 t || p1 t) || fullB rs t)), .val (.ref 2), .val (.int c), .non, x17, .non, .non], [(bkC (every.filter ((fullB rs)))), (bkC (every.filter (p0))), (bkC (every.filter ((fun t => p0 t || p1 t))))]⟩ = some (.ok .nx, ⟨[x0, .val (.lst (rs.map lstI)), .own (.lst ((linesOf rs).map tupI)), .val (gW (fullB rs)), .val (gW p0), .val (gW p1), .val (.int far), .val (lay rs), .val (.ref 0), .val (book (every.filter p0)), .val (book (every.filter p1)), .val (.lst (every.map tupI)), .val (gW (fun t => p0 t || p1 t)), .val (gW (fun t => (p0 t || p1 t) || fullB rs t)), .val (.ref 2), .val (.int c), .non, w17, .non, .non], [(bkC (every.filter ((fullB rs)))), (bkC (every.filter (p0))), (bkC (every.filter ((fun t => p0 t || p1 t))))]⟩) := by
  have b2 : BkR [(bkC (every.filter ((fullB rs)))), (bkC (every.filter (p0))), (bkC (every.filter ((fun t => p0 t || p1 t))))] (.ref 2) (every.filter (fun t => p0 t || p1 t)) := .at rfl
  have o1 : ∀ G, m_Book_lines_of [book (every.filter p0), .int c] G = _ := fun G => x_lines_of .val (cts_filter p0) c
  have o2 := x_lines_of b2 (cts_filter _) c
  have q1 : ∀ (p : List Int → Bool) G, m__law_pairs_of [gW p, .int c] G = _ := fun p G => x_pairs_of (cts_filter p) c G
  have ck1 : ∀ r G, chk "Book" "lines_of" (book (every.filter p0)) ⟨r, G⟩ = some (.ok (), ⟨r, G⟩) := fun r G => BkR.chkm .val r _ (by decide)
  have ck2 : ∀ r, chk "Book" "lines_of" (.ref 2) ⟨r, [(bkC (every.filter ((fullB rs)))), (bkC (every.filter (p0))), (bkC (every.filter ((fun t => p0 t || p1 t))))]⟩ = some (.ok (), ⟨r, [(bkC (every.filter ((fullB rs)))), (bkC (every.filter (p0))), (bkC (every.filter ((fun t => p0 t || p1 t))))]⟩) := fun r => b2.chkm r _ (by decide)
  have t1 := fun G => told_same p0 c G
  have t2 := fun G => told_same (fun t => p0 t || p1 t) c G
  have l2 := told_len (fun t => p0 t || p1 t) c
  have z2 : 2 ≤ sz := by decide
  have lz : (pairsAt (every.filter (fun t => p0 t || p1 t)) c).length < sz := by show _ < 16777216; omega
  refine ⟨.own (.lst ((pairsAt (every.filter (fun t => p0 t || p1 t)) c).map tupI ++ [.tup [.int c, .int c]])), ?_⟩
  simp [law_s19b_t0, law_s19b_s0, law_s19b_t1, law_s19b_s1, law_s19b_t2, law_s19b_s2, law_s19b_t3, law_s19b_s3, o1, o2, q1, ck1, ck2, t1, t2, fAppend, lz, z2]
theorem rest_ok (c : Int) {x16 x17 : SV} (h16 : x16 = .own (.lst ((every.filter (fun t => p1 t && !p0 t)).map tupI)) ∨ x16 = .val (gW (fun t => p1 t && !p0 t))) : law_s22b_t0 ⟨[x0, .val (.lst (rs.map lstI)), .own (.lst ((linesOf rs).map tupI)), .val (gW (fullB rs)), .val (gW p0), .val (gW p1), .val (.int far), .val (lay rs), .val (.ref 0), .val (book (every.filter p0)), .val (book (every.filter p1)), .val (.lst (every.map tupI)), .val (gW (fun t => p0 t || p1 t)), .val (gW (fun t => (p0 t || p1 t) || fullB rs t)), .val (.ref 2), .val (.int c), x16, x17, .non, .non], [(bkC (every.filter ((fullB rs)))), (bkC (every.filter (p0))), (bkC (every.filter ((fun t => p1 t && !p0 t))))]⟩ = some (.ok .nx, ⟨[x0, .val (.lst (rs.map lstI)), .own (.lst ((linesOf rs).map tupI)), .val (gW (fullB rs)), .val (gW p0), .val (gW p1), .val (.int far), .val (lay rs), .val (.ref 0), .val (book (every.filter p0)), .val (book (every.filter p1)), .val (.lst (every.map tupI)), .val (gW (fun t => p0 t || p1 t)), .val (gW (fun t => (p0 t || p1 t) || fullB rs t)), .val (.ref 2), .val (.int c), .val (gW (fun t => p1 t && !p0 t)), x17, .non, .non], [(bkC (every.filter ((fullB rs)))), (bkC (every.filter (p0))), (bkC (every.filter ((fun t => p1 t && !p0 t))))]⟩) := by
  have b2 : BkR [(bkC (every.filter ((fullB rs)))), (bkC (every.filter (p0))), (bkC (every.filter ((fun t => p1 t && !p0 t))))] (.ref 2) (every.filter (fun t => p1 t && !p0 t)) := .at rfl
  have o2 := x_lines_of b2 (cts_filter _) c
  have q1 : ∀ (p : List Int → Bool) G, m__law_pairs_of [gW p, .int c] G = _ := fun p G => x_pairs_of (cts_filter p) c G
  have ck2 : ∀ r, chk "Book" "lines_of" (.ref 2) ⟨r, [(bkC (every.filter ((fullB rs)))), (bkC (every.filter (p0))), (bkC (every.filter ((fun t => p1 t && !p0 t))))]⟩ = some (.ok (), ⟨r, [(bkC (every.filter ((fullB rs)))), (bkC (every.filter (p0))), (bkC (every.filter ((fun t => p1 t && !p0 t))))]⟩) := fun r => b2.chkm r _ (by decide)
  have t2 := fun G => told_same (fun t => p1 t && !p0 t) c G
  rcases h16 with rfl | rfl <;> simp [law_s22b_t0, law_s22b_s0, gW_w, o2, q1, ck2, t2]
theorem sub_ok {x15 x17 : SV} : law_t20 ⟨[x0, .val (.lst (rs.map lstI)), .own (.lst ((linesOf rs).map tupI)), .val (gW (fullB rs)), .val (gW p0), .val (gW p1), .val (.int far), .val (lay rs), .val (.ref 0), .val (book (every.filter p0)), .val (book (every.filter p1)), .val (.lst (every.map tupI)), .val (gW (fun t => p0 t || p1 t)), .val (gW (fun t => (p0 t || p1 t) || fullB rs t)), .val (.ref 2), x15, .non, x17, .non, .non], [(bkC (every.filter ((fullB rs)))), (bkC (every.filter (p0))), (bkC (every.filter ((fun t => p0 t || p1 t))))]⟩ = law_t22 ⟨[x0, .val (.lst (rs.map lstI)), .own (.lst ((linesOf rs).map tupI)), .val (gW (fullB rs)), .val (gW p0), .val (gW p1), .val (.int far), .val (lay rs), .val (.ref 0), .val (book (every.filter p0)), .val (book (every.filter p1)), .val (.lst (every.map tupI)), .val (gW (fun t => p0 t || p1 t)), .val (gW (fun t => (p0 t || p1 t) || fullB rs t)), .val (.ref 2), x15, .own (.lst ((every.filter ((fun t => p1 t && !p0 t))).map tupI)), x17, .non, .non], [(bkC (every.filter ((fullB rs)))), (bkC (every.filter (p0))), (bkC (every.filter ((fun t => p1 t && !p0 t))))]⟩ := by
  have io : m_Book___isub__ [.ref 2, book (every.filter p0)] [(bkC (every.filter ((fullB rs)))), (bkC (every.filter (p0))), (bkC (every.filter ((fun t => p0 t || p1 t))))] = some (.ok (.val (.ref 2)), [(bkC (every.filter ((fullB rs)))), (bkC (every.filter (p0))), (bkC (every.filter ((fun t => p1 t && !p0 t))))]) := by
    rw [xr_isub (n := 2) (ts := every.filter (fun t => p0 t || p1 t)) (us := every.filter p0) rfl .val (cts_filter _) (every_nodup.filter _), flt_not]
    rw [show every.filter (fun t => (p0 t || p1 t) && !p0 t) = every.filter (fun t => p1 t && !p0 t) from List.filter_congr fun t _ => by cases p0 t <;> cases p1 t <;> rfl]
    rfl
  have ow : ∀ r, chkO "Book" [.own "Book"] [.ref 2, book (every.filter p0)] ⟨r, [(bkC (every.filter ((fullB rs)))), (bkC (every.filter (p0))), (bkC (every.filter ((fun t => p0 t || p1 t))))]⟩ = some (.ok (), ⟨r, [(bkC (every.filter ((fullB rs)))), (bkC (every.filter (p0))), (bkC (every.filter ((fun t => p0 t || p1 t))))]⟩) := fun r => BkR.own (ts := every.filter (fun t => p0 t || p1 t)) (us := every.filter p0) (.at rfl) .val r
  have mem : ∀ t, t ∈ every → fIn true (tupI t) (gW p0) = some (.imm (.bl (!p0 t))) := fun t m => by
    rw [show gW p0 = .lst ((every.filter p0).map tupI) from rfl, mem_every p0 true m]
    simp
  have lc := lc_rows (kk := ⟨(every.filter p1).map tupI, none⟩) (i := 18) (st := fun v => ⟨[x0, .val (.lst (rs.map lstI)), .own (.lst ((linesOf rs).map tupI)), .val (gW (fullB rs)), .val (gW p0), .val (gW p1), .val (.int far), .val (lay rs), .val (.ref 0), .val (book (every.filter p0)), .val (book (every.filter p1)), .val (.lst (every.map tupI)), .val (gW (fun t => p0 t || p1 t)), .val (gW (fun t => (p0 t || p1 t) || fullB rs t)), .val (.ref 2), x15, .non, x17, v, .non], [(bkC (every.filter ((fullB rs)))), (bkC (every.filter (p0))), (bkC (every.filter ((fun t => p1 t && !p0 t))))]⟩) (tt := mB (mBin (fIn true) (mName 18) (mName 4))) (fun t => !p0 t) (every.filter p1) (cts_filter p1).sz trivial (fun v => by simp) (fun v => by simp)
    (fun t m => by simp [mem t (List.mem_filter.mp m).1]) (fun v => by simp)
  rw [f_and p1 fun t => !p0 t] at lc
  have wk : ∀ s : S, walkOf s (gW p1) = some ⟨(every.filter p1).map tupI, none⟩ := fun s => rfl
  simp [law_t20, law_s20, law_t21, law_s21, io, ow, wk, lc]
end
theorem says : Says m_law := by
  intro ns hl hb
  unfold m_law
  rw [fnM_o]
  have y0 : ∀ G, m__law_cell [.frl (ns.map W.int), .int 0] G = some (.ok (.val (.int (ns.getD 0 0))), G) := fun G => x_cell ns 0 G
  have y1 : ∀ G, m__law_cell [.frl (ns.map W.int), .int 1] G = some (.ok (.val (.int (ns.getD 1 0))), G) := fun G => x_cell ns 1 G
  have y2 : ∀ G, m__law_cell [.frl (ns.map W.int), .int 2] G = some (.ok (.val (.int (ns.getD 2 0))), G) := fun G => x_cell ns 2 G
  have y3 : ∀ G, m__law_cell [.frl (ns.map W.int), .int 3] G = some (.ok (.val (.int (ns.getD 3 0))), G) := fun G => x_cell ns 3 G
  generalize ns.getD 0 0 = c0 at y0
  generalize ns.getD 1 0 = c1 at y1
  generalize ns.getD 2 0 = c2 at y2
  generalize ns.getD 3 0 = c3 at y3
  obtain ⟨rs, hrs, hr1, h6', hc⟩ := x_rows c0 1 6 (by omega) (by omega) (by omega) []
  have h6 : rs.length ≤ 6 := by omega
  obtain ⟨p0, e0⟩ := x_counts c1 []
  obtain ⟨p1, e1⟩ := x_counts c2 []
  obtain ⟨xs, hx, hlen, hlim⟩ := x_numbers c3 4 [1000000000] (by intro l hl; simp at hl; subst hl; decide) (by simp) []
  obtain ⟨fr, rfl⟩ : ∃ fr, xs = [fr] := by
    match xs, hlen with
    | [a], _ => exact ⟨a, rfl⟩
  simp only [List.map_cons, List.map_nil] at hx
  have a0 : atI [W.int fr] 0 = some (.int fr) := atI_nat (j := 0) rfl
  generalize hfar : 6 + fr = far
  have ll := fun G => x_law_lines rs (by omega) (canon_len8 hc) G
  have tr := fun G => x_triples rs.length h6 G
  have cp : CPow 10 9 := by unfold CPow; constructor <;> decide
  have z1 : 1 ≤ sz := by decide
  have z2 : 2 ≤ sz := by decide
  have ml := fun r => x_layout (r := r) (G := []) hc (by omega) (by omega)
  have xf := fun G => x_full rs hc h6 G
  have l3 : lcL [18] (tgN 18) (mB (mBin (fIn false) (mTup (mCons (mBin fIx (mName 18) (mC (.int 1))) (mCons (mBin fIx (mName 18) (mC (.int 2))) mNil))) (mName 2))) (mName 18) ⟨(trip rs.length).map tupI, none⟩ ((trip rs.length).map tupI) [] ⟨[.val (.frl (ns.map W.int)), .val (.lst (rs.map lstI)), .own (.lst ((linesOf rs).map tupI)), .non, .non, .non, .non, .non, .non, .non, .non, .non, .non, .non, .non, .non, .non, .non, .non, .non], []⟩ =
      some (.ok (.own (.lst ((every.filter (fullB rs)).map tupI))), ⟨[.val (.frl (ns.map W.int)), .val (.lst (rs.map lstI)), .own (.lst ((linesOf rs).map tupI)), .non, .non, .non, .non, .non, .non, .non, .non, .non, .non, .non, .non, .non, .non, .non, .non, .non], []⟩) := by
    have te : ∀ t ∈ trip rs.length, t ∈ every := fun t m => by
      rw [trip_at _ h6] at m
      exact (List.mem_filter.mp m).1
    have tl : (trip rs.length).length ≤ 120 := by
      rw [trip_at _ h6, ← every_length]
      exact List.length_filter_le _ _
    rw [← trip_full h6]
    exact lc_rows (kk := ⟨(trip rs.length).map tupI, none⟩) (i := 18) (st := fun v => ⟨[.val (.frl (ns.map W.int)), .val (.lst (rs.map lstI)), .own (.lst ((linesOf rs).map tupI)), .non, .non, .non, .non, .non, .non, .non, .non, .non, .non, .non, .non, .non, .non, .non, v, .non], []⟩) (fun t => decide ([t.getD 1 0, t.getD 2 0] ∈ linesOf rs)) (trip rs.length) (by show _ ≤ 16777216; omega) trivial (fun v => by simp) (fun v => by simp)
      (fun t m => by
        obtain ⟨a, b, d, rfl, _⟩ := every_mem (te t m)
        have i1 : atI [W.int a, W.int b, W.int d] 1 = some (.int b) := atI_nat (j := 1) rfl
        have i2 : atI [W.int a, W.int b, W.int d] 2 = some (.int d) := atI_nat (j := 2) rfl
        have fi : fIn false (.tup [.int b, .int d]) (.lst ((linesOf rs).map tupI)) = _ := fIn_lst emb_row (by decide) false [(b : Int), (d : Int)] (linesOf rs)
        simp [tupI, i1, i2, z2] at fi ⊢
        simp [fi]) (fun v => by simp)
  have l12 := lc_copy (kk := ⟨rs.map lstI, none⟩) (i := 19) (st := fun v => ⟨[.val (.frl (ns.map W.int)), .val (.lst (rs.map lstI)), .own (.lst ((linesOf rs).map tupI)), .own (.lst ((every.filter (fullB rs)).map tupI)), .own (.lst ((every.filter p0).map tupI)), .own (.lst ((every.filter p1).map tupI)), .val (.int far), .non, .non, .non, .non, .non, .non, .non, .non, .non, .non, .non, .non, v], []⟩) rs h6 trivial (fun v => by simp) (fun v => by simp) (fun v => by simp) (fun ys => by simp [fList_lstI, lstI_w])
  have start : law_t0 ⟨[.val (.frl (ns.map W.int)), .non, .non, .non, .non, .non, .non, .non, .non, .non, .non, .non, .non, .non, .non, .non, .non, .non, .non, .non], []⟩ =
      law_t8 ⟨[.val (.frl (ns.map W.int)), .val (.lst (rs.map lstI)), .own (.lst ((linesOf rs).map tupI)), .own (.lst ((every.filter (fullB rs)).map tupI)), .own (.lst ((every.filter p0).map tupI)), .own (.lst ((every.filter p1).map tupI)), .val (.int far), .val (lay rs), .val (.ref 0), .non, .non, .non, .non, .non, .non, .non, .non, .non, .non, .non], [bkC (every.filter (fullB rs))]⟩ := by
    simp [law_t0, law_s0, law_t1, law_s1, law_t2, law_s2, law_t3, law_s3, law_t4, law_s4, law_t5, law_s5, law_t6, law_s6, law_t7, law_s7, y0, y1, y2, y3, hrs, e0, e1, hx, a0, cp, z1, hfar, ll, tr, ml, xf, l3, l12]
  rw [law_cut]
  simp only [List.map_cons, List.map_nil]
  show ∃ G', outF (law_t0 ⟨[.val (.frl (ns.map W.int)), .non, .non, .non, .non, .non, .non, .non, .non, .non, .non, .non, .non, .non, .non, .non, .non, .non, .non, .non], []⟩) = _
  rw [start]
  generalize SV.val (.frl (ns.map W.int)) = x0
  rw [mid_ok hc h6, join_ok]
  have z8 : 8 ≤ sz := by decide
  simp [law_t19, law_s19, z8]
  generalize hF : forL _ _ _ _ = F
  obtain ⟨s', rfl, v15, v17, rfl⟩ := forL_at hF (fun i s => ∃ v15 v17, s = ⟨[x0, .val (.lst (rs.map lstI)), .own (.lst ((linesOf rs).map tupI)), .val (gW (fullB rs)), .val (gW p0), .val (gW p1), .val (.int far), .val (lay rs), .val (.ref 0), .val (book (every.filter p0)), .val (book (every.filter p1)), .val (.lst (every.map tupI)), .val (gW (fun t => p0 t || p1 t)), .val (gW (fun t => (p0 t || p1 t) || fullB rs t)), .val (.ref 2), v15, .non, v17, .non, .non], [(bkC (every.filter ((fullB rs)))), (bkC (every.filter (p0))), (bkC (every.filter ((fun t => p0 t || p1 t))))]⟩) ⟨_, _, rfl⟩ (by
    rintro i hi s ⟨v15, v17, rfl⟩
    obtain ⟨js, hjs⟩ : ∃ js : List Int, [W.int (-1), .int far, .int 0, .int 1, .int 2, .int 3, .int 4, .int 5] = js.map W.int := ⟨[-1, far, 0, 1, 2, 3, 4, 5], rfl⟩
    obtain ⟨c, hcc⟩ : ∃ c, [W.int (-1), .int far, .int 0, .int 1, .int 2, .int 3, .int 4, .int 5][i] = W.int c := by
      have hi' : i < js.length := by
        have := congrArg List.length hjs
        rw [List.length_map] at this
        omega
      exact ⟨js[i], by simp [hjs]⟩
    rw [hcc]
    obtain ⟨w17, e⟩ := ask_ok (x0 := x0) (rs := rs) (p0 := p0) (p1 := p1) (far := far) c (x17 := v17)
    exact ⟨_, by simpa using e, _, _, rfl⟩)
  simp [sub_ok]
  have rk : Rk 6 := rk_nat (n := 6) (by omega)
  simp [law_t22, law_s22, rk]
  generalize hF2 : forL _ _ _ _ = F2
  obtain ⟨s', rfl, w15, w16, rfl, h16⟩ := forL_at hF2 (fun i s => ∃ w15 w16, s = ⟨[x0, .val (.lst (rs.map lstI)), .own (.lst ((linesOf rs).map tupI)), .val (gW (fullB rs)), .val (gW p0), .val (gW p1), .val (.int far), .val (lay rs), .val (.ref 0), .val (book (every.filter p0)), .val (book (every.filter p1)), .val (.lst (every.map tupI)), .val (gW (fun t => p0 t || p1 t)), .val (gW (fun t => (p0 t || p1 t) || fullB rs t)), .val (.ref 2), w15, w16, v17, .non, .non], [(bkC (every.filter ((fullB rs)))), (bkC (every.filter (p0))), (bkC (every.filter ((fun t => p1 t && !p0 t))))]⟩ ∧ ((i = 0 ∧ w16 = .own (.lst ((every.filter ((fun t => p1 t && !p0 t))).map tupI))) ∨ w16 = .val (gW (fun t => p1 t && !p0 t)))) ⟨_, _, rfl, .inl ⟨rfl, rfl⟩⟩ (by
    rintro i hi s ⟨w15, w16, rfl, h16⟩
    have ei : (rngW 0 6)[i] = W.int i := by simp [rngW]
    rw [ei]
    have e := rest_ok (x0 := x0) (rs := rs) (p0 := p0) (p1 := p1) (far := far) i (x16 := w16) (x17 := v17) (h16.imp (fun z => z.2) id)
    exact ⟨_, by simpa using e, _, _, rfl, .inr rfl⟩)
  have h16 : w16 = .val (gW (fun t => p1 t && !p0 t)) := by
    rcases h16 with ⟨z, _⟩ | h
    · simp [rngW] at z
    · exact h
  subst h16
  obtain ⟨s', e⟩ := end_ok (x0 := x0) (rs := rs) (p0 := p0) (p1 := p1) (far := far) hc h6 (x15 := w15) (x17 := v17)
  simp [e, outF]
end Z
namespace Z
open PySem PySem.Spec PyProof.Rows L2
theorem all_mk {l : PySem.W.OpenLaw} {w : World} {K : PySem.W.Frag} {h : Heap} {mg : Str → Option Value} {fa : Addr} (X : K.In h) (G : h.Ns mainGlobals mg) (hfa : mg "law" = some (.ref fa))
    {C_KeeperError C_BadLayout C_BadKey C_NoCopy C_BadCount C_Layout C_Book f__law_numbers f__law_row f__law_rows f__law_cell f__law_lines f__law_triples f__law_counts f_Layout___init__ f_Layout_is_line f_Layout_lines f_Layout___len__ f_is_count f_ascending f_Book___init__ f_Book_full f__law_is_int f_Book___len__ f__law_same_rows f_Book___iter__ f__law_same_book f_Layout___iter__ f_joined f_Book___ior__ f__law_pairs_of f_Book_lines_of f_Book___isub__ f_law f_BadKey___init__ f_BadCount___init__ : Addr}
    {oc__law_numbers kV__law_numbers dc__law_numbers pm__law_numbers cd__law_numbers ct__law_numbers oc__law_row kV__law_row dc__law_row pm__law_row cd__law_row ct__law_row oc__law_rows kV__law_rows dc__law_rows pm__law_rows cd__law_rows ct__law_rows oc__law_cell kV__law_cell dc__law_cell pm__law_cell cd__law_cell ct__law_cell oc__law_lines kV__law_lines dc__law_lines pm__law_lines cd__law_lines ct__law_lines oc__law_triples kV__law_triples dc__law_triples pm__law_triples cd__law_triples ct__law_triples oc__law_counts kV__law_counts dc__law_counts pm__law_counts cd__law_counts ct__law_counts oc_Layout___init__ kV_Layout___init__ dc_Layout___init__ pm_Layout___init__ cd_Layout___init__ ct_Layout___init__ oc_Layout_is_line kV_Layout_is_line dc_Layout_is_line pm_Layout_is_line cd_Layout_is_line ct_Layout_is_line oc_Layout_lines kV_Layout_lines dc_Layout_lines pm_Layout_lines cd_Layout_lines ct_Layout_lines oc_Layout___len__ kV_Layout___len__ dc_Layout___len__ pm_Layout___len__ cd_Layout___len__ ct_Layout___len__ oc_is_count kV_is_count dc_is_count pm_is_count cd_is_count ct_is_count oc_ascending kV_ascending dc_ascending pm_ascending cd_ascending ct_ascending oc_Book___init__ kV_Book___init__ dc_Book___init__ pm_Book___init__ cd_Book___init__ ct_Book___init__ oc_Book_full kV_Book_full dc_Book_full pm_Book_full cd_Book_full ct_Book_full oc__law_is_int kV__law_is_int dc__law_is_int pm__law_is_int cd__law_is_int ct__law_is_int oc_Book___len__ kV_Book___len__ dc_Book___len__ pm_Book___len__ cd_Book___len__ ct_Book___len__ oc__law_same_rows kV__law_same_rows dc__law_same_rows pm__law_same_rows cd__law_same_rows ct__law_same_rows oc_Book___iter__ kV_Book___iter__ dc_Book___iter__ pm_Book___iter__ cd_Book___iter__ ct_Book___iter__ oc__law_same_book kV__law_same_book dc__law_same_book pm__law_same_book cd__law_same_book ct__law_same_book oc_Layout___iter__ kV_Layout___iter__ dc_Layout___iter__ pm_Layout___iter__ cd_Layout___iter__ ct_Layout___iter__ oc_joined kV_joined dc_joined pm_joined cd_joined ct_joined oc_Book___ior__ kV_Book___ior__ dc_Book___ior__ pm_Book___ior__ cd_Book___ior__ ct_Book___ior__ oc__law_pairs_of kV__law_pairs_of dc__law_pairs_of pm__law_pairs_of cd__law_pairs_of ct__law_pairs_of oc_Book_lines_of kV_Book_lines_of dc_Book_lines_of pm_Book_lines_of cd_Book_lines_of ct_Book_lines_of oc_Book___isub__ kV_Book___isub__ dc_Book___isub__ pm_Book___isub__ cd_Book___isub__ ct_Book___isub__ oc_law kV_law dc_law pm_law cd_law ct_law oc_BadKey___init__ kV_BadKey___init__ dc_BadKey___init__ pm_BadKey___init__ cd_BadKey___init__ ct_BadKey___init__ oc_BadCount___init__ kV_BadCount___init__ dc_BadCount___init__ pm_BadCount___init__ cd_BadCount___init__ ct_BadCount___init__ tc_Book___init__ : Value}
    {T_Book___init__ E_Book___init__ : Addr} {td_Book___init__ te_Book___init__ : Option Addr} {tn_Book___init__ en_Book___init__ : Nat} {ts_Book___init__ es_Book___init__ : Array (Option Value)}
    {od__law_numbers an__law_numbers od__law_row an__law_row od__law_rows an__law_rows od__law_cell an__law_cell od__law_lines an__law_lines od__law_triples an__law_triples od__law_counts an__law_counts od_Layout___init__ an_Layout___init__ od_Layout_is_line an_Layout_is_line od_Layout_lines an_Layout_lines od_Layout___len__ an_Layout___len__ od_is_count an_is_count od_ascending an_ascending od_Book___init__ an_Book___init__ od_Book_full an_Book_full od__law_is_int an__law_is_int od_Book___len__ an_Book___len__ od__law_same_rows an__law_same_rows od_Book___iter__ an_Book___iter__ od__law_same_book an__law_same_book od_Layout___iter__ an_Layout___iter__ od_joined an_joined od_Book___ior__ an_Book___ior__ od__law_pairs_of an__law_pairs_of od_Book_lines_of an_Book_lines_of od_Book___isub__ an_Book___isub__ od_law an_law od_BadKey___init__ an_BadKey___init__ od_BadCount___init__ an_BadCount___init__ : Option Addr}
    {sl__law_numbers sl__law_row sl__law_rows sl__law_cell sl__law_lines sl__law_triples sl__law_counts sl_Layout___init__ sl_Layout_is_line sl_Layout_lines sl_Layout___len__ sl_is_count sl_ascending sl_Book___init__ sl_Book_full sl__law_is_int sl_Book___len__ sl__law_same_rows sl_Book___iter__ sl__law_same_book sl_Layout___iter__ sl_joined sl_Book___ior__ sl__law_pairs_of sl_Book_lines_of sl_Book___isub__ sl_law sl_BadKey___init__ sl_BadCount___init__ : Array (Option Value)}
    {tk_MOST_COPIES tk_MOST_KEYS : Tok}
    {nm_BadCount qq_BadCount : Str} {N_BadCount : Addr} {bs_BadCount sb_BadCount : List Value} {sn_BadCount : List Str} {ab_BadCount : Bool} {co_BadCount : Option Bool} {dd_BadCount : Option Addr} {m0_BadCount m1_BadCount m2_BadCount m3_BadCount m5_BadCount : Option Value}
    {nm_BadKey qq_BadKey : Str} {N_BadKey : Addr} {bs_BadKey sb_BadKey : List Value} {sn_BadKey : List Str} {ab_BadKey : Bool} {co_BadKey : Option Bool} {dd_BadKey : Option Addr} {m0_BadKey m1_BadKey m2_BadKey m3_BadKey m5_BadKey : Option Value}
    (aC_KeeperError : PySem.W.nsIn K mainGlobals "KeeperError" = some (some (.ref C_KeeperError)))
    (aC_BadLayout : PySem.W.nsIn K mainGlobals "BadLayout" = some (some (.ref C_BadLayout)))
    (aC_BadKey : PySem.W.nsIn K mainGlobals "BadKey" = some (some (.ref C_BadKey)))
    (aC_NoCopy : PySem.W.nsIn K mainGlobals "NoCopy" = some (some (.ref C_NoCopy)))
    (aC_BadCount : PySem.W.nsIn K mainGlobals "BadCount" = some (some (.ref C_BadCount)))
    (aC_Layout : PySem.W.nsIn K mainGlobals "Layout" = some (some (.ref C_Layout)))
    (aC_Book : PySem.W.nsIn K mainGlobals "Book" = some (some (.ref C_Book)))
    (xf1_BadCount : PySem.W.findIn K (.ref C_BadCount) "__init__" = some (some (.ref f_BadCount___init__)))
    (xf1_BadKey : PySem.W.findIn K (.ref C_BadKey) "__init__" = some (some (.ref f_BadKey___init__)))
    (a__law_numbers : PySem.W.nsIn K mainGlobals "_law_numbers" = some (some (.ref f__law_numbers)))
    (a__law_row : PySem.W.nsIn K mainGlobals "_law_row" = some (some (.ref f__law_row)))
    (a__law_rows : PySem.W.nsIn K mainGlobals "_law_rows" = some (some (.ref f__law_rows)))
    (a__law_cell : PySem.W.nsIn K mainGlobals "_law_cell" = some (some (.ref f__law_cell)))
    (a__law_lines : PySem.W.nsIn K mainGlobals "_law_lines" = some (some (.ref f__law_lines)))
    (a__law_triples : PySem.W.nsIn K mainGlobals "_law_triples" = some (some (.ref f__law_triples)))
    (a__law_counts : PySem.W.nsIn K mainGlobals "_law_counts" = some (some (.ref f__law_counts)))
    (ma_Layout___init__ : PySem.W.findIn K (.ref C_Layout) "__init__" = some (some (.ref f_Layout___init__)))
    (ma_Layout_is_line : PySem.W.findIn K (.ref C_Layout) "is_line" = some (some (.ref f_Layout_is_line)))
    (ma_Layout_lines : PySem.W.findIn K (.ref C_Layout) "lines" = some (some (.ref f_Layout_lines)))
    (ma_Layout___len__ : PySem.W.findIn K (.ref C_Layout) "__len__" = some (some (.ref f_Layout___len__)))
    (a_is_count : PySem.W.nsIn K mainGlobals "is_count" = some (some (.ref f_is_count)))
    (a_ascending : PySem.W.nsIn K mainGlobals "ascending" = some (some (.ref f_ascending)))
    (ma_Book___init__ : PySem.W.findIn K (.ref C_Book) "__init__" = some (some (.ref f_Book___init__)))
    (a__law_is_int : PySem.W.nsIn K mainGlobals "_law_is_int" = some (some (.ref f__law_is_int)))
    (ma_Book___len__ : PySem.W.findIn K (.ref C_Book) "__len__" = some (some (.ref f_Book___len__)))
    (a__law_same_rows : PySem.W.nsIn K mainGlobals "_law_same_rows" = some (some (.ref f__law_same_rows)))
    (ma_Book___iter__ : PySem.W.findIn K (.ref C_Book) "__iter__" = some (some (.ref f_Book___iter__)))
    (a__law_same_book : PySem.W.nsIn K mainGlobals "_law_same_book" = some (some (.ref f__law_same_book)))
    (ma_Layout___iter__ : PySem.W.findIn K (.ref C_Layout) "__iter__" = some (some (.ref f_Layout___iter__)))
    (a_joined : PySem.W.nsIn K mainGlobals "joined" = some (some (.ref f_joined)))
    (ma_Book___ior__ : PySem.W.findIn K (.ref C_Book) "__ior__" = some (some (.ref f_Book___ior__)))
    (a__law_pairs_of : PySem.W.nsIn K mainGlobals "_law_pairs_of" = some (some (.ref f__law_pairs_of)))
    (ma_Book_lines_of : PySem.W.findIn K (.ref C_Book) "lines_of" = some (some (.ref f_Book_lines_of)))
    (ma_Book___isub__ : PySem.W.findIn K (.ref C_Book) "__isub__" = some (some (.ref f_Book___isub__)))
    (a_law : PySem.W.nsIn K mainGlobals "law" = some (some (.ref f_law)))
    (av_MOST_COPIES : PySem.W.nsIn K mainGlobals "MOST_COPIES" = some (some (.int 6 tk_MOST_COPIES)))
    (av_MOST_KEYS : PySem.W.nsIn K mainGlobals "MOST_KEYS" = some (some (.int 8 tk_MOST_KEYS)))
    (xL_BadCount : K.lookup C_BadCount = some (excClassObj nm_BadCount qq_BadCount C_BadCount N_BadCount bs_BadCount [.ref C_KeeperError, .type "ValueError", .type "Exception", .type "BaseException", .type "object"] true sn_BadCount sb_BadCount ab_BadCount co_BadCount dd_BadCount m0_BadCount m1_BadCount m2_BadCount m3_BadCount m5_BadCount "ValueError.__new__"))
    (xL_BadKey : K.lookup C_BadKey = some (excClassObj nm_BadKey qq_BadKey C_BadKey N_BadKey bs_BadKey [.ref C_KeeperError, .type "ValueError", .type "Exception", .type "BaseException", .type "object"] true sn_BadKey sb_BadKey ab_BadKey co_BadKey dd_BadKey m0_BadKey m1_BadKey m2_BadKey m3_BadKey m5_BadKey "ValueError.__new__"))
    (l__law_numbers : K.lookup f__law_numbers = some ⟨oc__law_numbers, od__law_numbers, .func (PySem.W.fnOf "_law_numbers" "_law_numbers" (defArgs s__law_numbers) (defBody s__law_numbers) (defScope s__law_numbers) .none kV__law_numbers dc__law_numbers pm__law_numbers an__law_numbers cd__law_numbers ct__law_numbers), sl__law_numbers⟩)
    (l__law_row : K.lookup f__law_row = some ⟨oc__law_row, od__law_row, .func (PySem.W.fnOf "_law_row" "_law_row" (defArgs s__law_row) (defBody s__law_row) (defScope s__law_row) .none kV__law_row dc__law_row pm__law_row an__law_row cd__law_row ct__law_row), sl__law_row⟩)
    (l__law_rows : K.lookup f__law_rows = some ⟨oc__law_rows, od__law_rows, .func (PySem.W.fnOf "_law_rows" "_law_rows" (defArgs s__law_rows) (defBody s__law_rows) (defScope s__law_rows) .none kV__law_rows dc__law_rows pm__law_rows an__law_rows cd__law_rows ct__law_rows), sl__law_rows⟩)
    (l__law_cell : K.lookup f__law_cell = some ⟨oc__law_cell, od__law_cell, .func (PySem.W.fnOf "_law_cell" "_law_cell" (defArgs s__law_cell) (defBody s__law_cell) (defScope s__law_cell) .none kV__law_cell dc__law_cell pm__law_cell an__law_cell cd__law_cell ct__law_cell), sl__law_cell⟩)
    (l__law_lines : K.lookup f__law_lines = some ⟨oc__law_lines, od__law_lines, .func (PySem.W.fnOf "_law_lines" "_law_lines" (defArgs s__law_lines) (defBody s__law_lines) (defScope s__law_lines) .none kV__law_lines dc__law_lines pm__law_lines an__law_lines cd__law_lines ct__law_lines), sl__law_lines⟩)
    (l__law_triples : K.lookup f__law_triples = some ⟨oc__law_triples, od__law_triples, .func (PySem.W.fnOf "_law_triples" "_law_triples" (defArgs s__law_triples) (defBody s__law_triples) (defScope s__law_triples) .none kV__law_triples dc__law_triples pm__law_triples an__law_triples cd__law_triples ct__law_triples), sl__law_triples⟩)
    (l__law_counts : K.lookup f__law_counts = some ⟨oc__law_counts, od__law_counts, .func (PySem.W.fnOf "_law_counts" "_law_counts" (defArgs s__law_counts) (defBody s__law_counts) (defScope s__law_counts) .none kV__law_counts dc__law_counts pm__law_counts an__law_counts cd__law_counts ct__law_counts), sl__law_counts⟩)
    (l_Layout___init__ : K.lookup f_Layout___init__ = some ⟨oc_Layout___init__, od_Layout___init__, .func (PySem.W.fnOf "__init__" "Layout.__init__" (defArgs s_Layout___init__) (defBody s_Layout___init__) (defScope s_Layout___init__) .none kV_Layout___init__ dc_Layout___init__ pm_Layout___init__ an_Layout___init__ cd_Layout___init__ ct_Layout___init__), sl_Layout___init__⟩)
    (l_Layout_is_line : K.lookup f_Layout_is_line = some ⟨oc_Layout_is_line, od_Layout_is_line, .func (PySem.W.fnOf "is_line" "Layout.is_line" (defArgs s_Layout_is_line) (defBody s_Layout_is_line) (defScope s_Layout_is_line) .none kV_Layout_is_line dc_Layout_is_line pm_Layout_is_line an_Layout_is_line cd_Layout_is_line ct_Layout_is_line), sl_Layout_is_line⟩)
    (l_Layout_lines : K.lookup f_Layout_lines = some ⟨oc_Layout_lines, od_Layout_lines, .func (PySem.W.fnOf "lines" "Layout.lines" (defArgs s_Layout_lines) (defBody s_Layout_lines) (defScope s_Layout_lines) .none kV_Layout_lines dc_Layout_lines pm_Layout_lines an_Layout_lines cd_Layout_lines ct_Layout_lines), sl_Layout_lines⟩)
    (l_Layout___len__ : K.lookup f_Layout___len__ = some ⟨oc_Layout___len__, od_Layout___len__, .func (PySem.W.fnOf "__len__" "Layout.__len__" (defArgs s_Layout___len__) (defBody s_Layout___len__) (defScope s_Layout___len__) .none kV_Layout___len__ dc_Layout___len__ pm_Layout___len__ an_Layout___len__ cd_Layout___len__ ct_Layout___len__), sl_Layout___len__⟩)
    (l_is_count : K.lookup f_is_count = some ⟨oc_is_count, od_is_count, .func (PySem.W.fnOf "is_count" "is_count" (defArgs s_is_count) (defBody s_is_count) (defScope s_is_count) .none kV_is_count dc_is_count pm_is_count an_is_count cd_is_count ct_is_count), sl_is_count⟩)
    (l_ascending : K.lookup f_ascending = some ⟨oc_ascending, od_ascending, .func (PySem.W.fnOf "ascending" "ascending" (defArgs s_ascending) (defBody s_ascending) (defScope s_ascending) .none kV_ascending dc_ascending pm_ascending an_ascending cd_ascending ct_ascending), sl_ascending⟩)
    (l_Book___init__ : K.lookup f_Book___init__ = some ⟨oc_Book___init__, od_Book___init__, .func (PySem.W.fnOf "__init__" "Book.__init__" (defArgs s_Book___init__) (defBody s_Book___init__) (defScope s_Book___init__) (.ref T_Book___init__) kV_Book___init__ dc_Book___init__ pm_Book___init__ an_Book___init__ cd_Book___init__ ct_Book___init__), sl_Book___init__⟩)
    (l_Book_full : K.lookup f_Book_full = some ⟨oc_Book_full, od_Book_full, .func (PySem.W.fnOf "full" "Book.full" (defArgs s_Book_full) (defBody s_Book_full) (defScope s_Book_full) .none kV_Book_full dc_Book_full pm_Book_full an_Book_full cd_Book_full ct_Book_full), sl_Book_full⟩)
    (l__law_is_int : K.lookup f__law_is_int = some ⟨oc__law_is_int, od__law_is_int, .func (PySem.W.fnOf "_law_is_int" "_law_is_int" (defArgs s__law_is_int) (defBody s__law_is_int) (defScope s__law_is_int) .none kV__law_is_int dc__law_is_int pm__law_is_int an__law_is_int cd__law_is_int ct__law_is_int), sl__law_is_int⟩)
    (l_Book___len__ : K.lookup f_Book___len__ = some ⟨oc_Book___len__, od_Book___len__, .func (PySem.W.fnOf "__len__" "Book.__len__" (defArgs s_Book___len__) (defBody s_Book___len__) (defScope s_Book___len__) .none kV_Book___len__ dc_Book___len__ pm_Book___len__ an_Book___len__ cd_Book___len__ ct_Book___len__), sl_Book___len__⟩)
    (l__law_same_rows : K.lookup f__law_same_rows = some ⟨oc__law_same_rows, od__law_same_rows, .func (PySem.W.fnOf "_law_same_rows" "_law_same_rows" (defArgs s__law_same_rows) (defBody s__law_same_rows) (defScope s__law_same_rows) .none kV__law_same_rows dc__law_same_rows pm__law_same_rows an__law_same_rows cd__law_same_rows ct__law_same_rows), sl__law_same_rows⟩)
    (l_Book___iter__ : K.lookup f_Book___iter__ = some ⟨oc_Book___iter__, od_Book___iter__, .func (PySem.W.fnOf "__iter__" "Book.__iter__" (defArgs s_Book___iter__) (defBody s_Book___iter__) (defScope s_Book___iter__) .none kV_Book___iter__ dc_Book___iter__ pm_Book___iter__ an_Book___iter__ cd_Book___iter__ ct_Book___iter__), sl_Book___iter__⟩)
    (l__law_same_book : K.lookup f__law_same_book = some ⟨oc__law_same_book, od__law_same_book, .func (PySem.W.fnOf "_law_same_book" "_law_same_book" (defArgs s__law_same_book) (defBody s__law_same_book) (defScope s__law_same_book) .none kV__law_same_book dc__law_same_book pm__law_same_book an__law_same_book cd__law_same_book ct__law_same_book), sl__law_same_book⟩)
    (l_Layout___iter__ : K.lookup f_Layout___iter__ = some ⟨oc_Layout___iter__, od_Layout___iter__, .func (PySem.W.fnOf "__iter__" "Layout.__iter__" (defArgs s_Layout___iter__) (defBody s_Layout___iter__) (defScope s_Layout___iter__) .none kV_Layout___iter__ dc_Layout___iter__ pm_Layout___iter__ an_Layout___iter__ cd_Layout___iter__ ct_Layout___iter__), sl_Layout___iter__⟩)
    (l_joined : K.lookup f_joined = some ⟨oc_joined, od_joined, .func (PySem.W.fnOf "joined" "joined" (defArgs s_joined) (defBody s_joined) (defScope s_joined) .none kV_joined dc_joined pm_joined an_joined cd_joined ct_joined), sl_joined⟩)
    (l_Book___ior__ : K.lookup f_Book___ior__ = some ⟨oc_Book___ior__, od_Book___ior__, .func (PySem.W.fnOf "__ior__" "Book.__ior__" (defArgs s_Book___ior__) (defBody s_Book___ior__) (defScope s_Book___ior__) .none kV_Book___ior__ dc_Book___ior__ pm_Book___ior__ an_Book___ior__ cd_Book___ior__ ct_Book___ior__), sl_Book___ior__⟩)
    (l__law_pairs_of : K.lookup f__law_pairs_of = some ⟨oc__law_pairs_of, od__law_pairs_of, .func (PySem.W.fnOf "_law_pairs_of" "_law_pairs_of" (defArgs s__law_pairs_of) (defBody s__law_pairs_of) (defScope s__law_pairs_of) .none kV__law_pairs_of dc__law_pairs_of pm__law_pairs_of an__law_pairs_of cd__law_pairs_of ct__law_pairs_of), sl__law_pairs_of⟩)
    (l_Book_lines_of : K.lookup f_Book_lines_of = some ⟨oc_Book_lines_of, od_Book_lines_of, .func (PySem.W.fnOf "lines_of" "Book.lines_of" (defArgs s_Book_lines_of) (defBody s_Book_lines_of) (defScope s_Book_lines_of) .none kV_Book_lines_of dc_Book_lines_of pm_Book_lines_of an_Book_lines_of cd_Book_lines_of ct_Book_lines_of), sl_Book_lines_of⟩)
    (l_Book___isub__ : K.lookup f_Book___isub__ = some ⟨oc_Book___isub__, od_Book___isub__, .func (PySem.W.fnOf "__isub__" "Book.__isub__" (defArgs s_Book___isub__) (defBody s_Book___isub__) (defScope s_Book___isub__) .none kV_Book___isub__ dc_Book___isub__ pm_Book___isub__ an_Book___isub__ cd_Book___isub__ ct_Book___isub__), sl_Book___isub__⟩)
    (l_law : K.lookup f_law = some ⟨oc_law, od_law, .func (PySem.W.fnOf "law" "law" (defArgs s_law) (defBody s_law) (defScope s_law) .none kV_law dc_law pm_law an_law cd_law ct_law), sl_law⟩)
    (l_BadKey___init__ : K.lookup f_BadKey___init__ = some ⟨oc_BadKey___init__, od_BadKey___init__, .func (PySem.W.fnOf "__init__" "BadKey.__init__" (defArgs s_BadKey___init__) (defBody s_BadKey___init__) (defScope s_BadKey___init__) .none kV_BadKey___init__ dc_BadKey___init__ pm_BadKey___init__ an_BadKey___init__ cd_BadKey___init__ ct_BadKey___init__), sl_BadKey___init__⟩)
    (l_BadCount___init__ : K.lookup f_BadCount___init__ = some ⟨oc_BadCount___init__, od_BadCount___init__, .func (PySem.W.fnOf "__init__" "BadCount.__init__" (defArgs s_BadCount___init__) (defBody s_BadCount___init__) (defScope s_BadCount___init__) .none kV_BadCount___init__ dc_BadCount___init__ pm_BadCount___init__ an_BadCount___init__ cd_BadCount___init__ ct_BadCount___init__), sl_BadCount___init__⟩)
    (t_Book___init__ : K.lookup T_Book___init__ = some ⟨tc_Book___init__, td_Book___init__, .seq #[.ref E_Book___init__] tn_Book___init__, ts_Book___init__⟩)
    (e_Book___init__ : K.lookup E_Book___init__ = some ⟨.type "tuple", te_Book___init__, .seq #[] en_Book___init__, es_Book___init__⟩)
    (z_all : PySem.W.nsIn K mainGlobals "all" = some none)
    (z_bool : PySem.W.nsIn K mainGlobals "bool" = some none)
    (z_int : PySem.W.nsIn K mainGlobals "int" = some none)
    (z_isinstance : PySem.W.nsIn K mainGlobals "isinstance" = some none)
    (z_iter : PySem.W.nsIn K mainGlobals "iter" = some none)
    (z_len : PySem.W.nsIn K mainGlobals "len" = some none)
    (z_list : PySem.W.nsIn K mainGlobals "list" = some none)
    (z_range : PySem.W.nsIn K mainGlobals "range" = some none)
    (z_sum : PySem.W.nsIn K mainGlobals "sum" = some none)
    (z_tuple : PySem.W.nsIn K mainGlobals "tuple" = some none)
    (kp_KeeperError : PySem.W.keepIn K (.ref C_KeeperError) = true)
    (kp_BadLayout : PySem.W.keepIn K (.ref C_BadLayout) = true)
    (kp_BadKey : PySem.W.keepIn K (.ref C_BadKey) = true)
    (kp_NoCopy : PySem.W.keepIn K (.ref C_NoCopy) = true)
    (kp_BadCount : PySem.W.keepIn K (.ref C_BadCount) = true)
    (kp_Layout : PySem.W.keepIn K (.ref C_Layout) = true)
    (kp_Book : PySem.W.keepIn K (.ref C_Book) = true)
    (pg_Layout : PySem.W.plainGet K C_Layout Str.empty = true)
    (hd_Layout : PySem.W.hasDictIn K C_Layout = true)
    (po_Layout : PySem.W.plainOver K C_Layout = true)
    (sa_Layout : PySem.W.findIn K (.ref C_Layout) "__setattr__" = some (some (.builtin "object.__setattr__")))
    (mk_Layout : PySem.W.makesIn K C_Layout = true)
    (ha_Layout : PySem.W.findIn K (.ref C_Layout) "__class__" = some (some (.builtin "object.__class__")))
    (hm_Layout : PySem.W.mroIn K C_Layout (.type "object") = some true)
    (me_Layout : PySem.W.kitOne K (.ref C_Layout) (.ref C_Layout) = some true)
    (pg_Book : PySem.W.plainGet K C_Book Str.empty = true)
    (hd_Book : PySem.W.hasDictIn K C_Book = true)
    (po_Book : PySem.W.plainOver K C_Book = true)
    (sa_Book : PySem.W.findIn K (.ref C_Book) "__setattr__" = some (some (.builtin "object.__setattr__")))
    (mk_Book : PySem.W.makesIn K C_Book = true)
    (ha_Book : PySem.W.findIn K (.ref C_Book) "__class__" = some (some (.builtin "object.__class__")))
    (hm_Book : PySem.W.mroIn K C_Book (.type "object") = some true)
    (me_Book : PySem.W.kitOne K (.ref C_Book) (.ref C_Book) = some true)
    (sp_get : PySem.W.specialIn K (.builtin "object.__class__") "__get__" = some (some (.builtin "getset_descriptor.__get__")))
    (tk_cls : PySem.W.takesIn K (.builtin "object.__class__") = some true)
    (nA_Layout_masks : PySem.W.findIn K (.ref C_Layout) "masks" = some none)
    (nA_Book_rows : PySem.W.findIn K (.ref C_Book) "rows" = some none)
    (nA_Layout_rows : PySem.W.findIn K (.ref C_Layout) "rows" = some none)
    (ik_Book_Book : PySem.W.kitOne K (.ref C_Book) (.ref C_Book) = some true)
    (ik_Layout_Book : PySem.W.kitOne K (.ref C_Layout) (.ref C_Book) = some false)
    (it_dict_Book : PySem.W.kitOne K (.type "dict") (.ref C_Book) = some false)
    (it_list_Book : PySem.W.kitOne K (.type "list") (.ref C_Book) = some false)
    (it_tuple_Book : PySem.W.kitOne K (.type "tuple") (.ref C_Book) = some false)
    (it_bytes_Book : PySem.W.kitOne K (.type "bytes") (.ref C_Book) = some false)
    (it_str_Book : PySem.W.kitOne K (.type "str") (.ref C_Book) = some false)
    (it_int_Book : PySem.W.kitOne K (.type "int") (.ref C_Book) = some false)
    (it_bool_Book : PySem.W.kitOne K (.type "bool") (.ref C_Book) = some false)
    (it_NoneType_Book : PySem.W.kitOne K (.type "NoneType") (.ref C_Book) = some false)
    (ik_Book_bool : PySem.W.kitOne K (.ref C_Book) (.type "bool") = some false)
    (ik_Layout_bool : PySem.W.kitOne K (.ref C_Layout) (.type "bool") = some false)
    (ik_Book_int : PySem.W.kitOne K (.ref C_Book) (.type "int") = some false)
    (ik_Layout_int : PySem.W.kitOne K (.ref C_Layout) (.type "int") = some false)
    (ik_Book_list : PySem.W.kitOne K (.ref C_Book) (.type "list") = some false)
    (ik_Layout_list : PySem.W.kitOne K (.ref C_Layout) (.type "list") = some false)
    (ik_Book_tuple : PySem.W.kitOne K (.ref C_Book) (.type "tuple") = some false)
    (ik_Layout_tuple : PySem.W.kitOne K (.ref C_Layout) (.type "tuple") = some false)
    (nfo_Book_Book : PySem.W.notFirst K C_Book (.ref C_Book) = true)
    (nfo_Layout_Book : PySem.W.notFirst K C_Book (.ref C_Layout) = true)
    (nft_dict_Book : PySem.W.notFirst K C_Book (.type "dict") = true)
    (nft_list_Book : PySem.W.notFirst K C_Book (.type "list") = true)
    (nft_tuple_Book : PySem.W.notFirst K C_Book (.type "tuple") = true)
    (nft_bytes_Book : PySem.W.notFirst K C_Book (.type "bytes") = true)
    (nft_str_Book : PySem.W.notFirst K C_Book (.type "str") = true)
    (nft_int_Book : PySem.W.notFirst K C_Book (.type "int") = true)
    (nft_bool_Book : PySem.W.notFirst K C_Book (.type "bool") = true)
    (nft_NoneType_Book : PySem.W.notFirst K C_Book (.type "NoneType") = true)
    (sf_Book : PySem.W.selfFirst K C_Book = true)
    (xs_BadCount : PySem.W.findIn K (.ref C_BadCount) "__setattr__" = some (some (.builtin "object.__setattr__")))
    (xe_BadCount : PySem.W.subIn K (.ref C_BadCount) (.type "BaseException") = some true)
    (xy_BadCount : PySem.W.typeIn K (.ref C_BadCount) = some (.type "type"))
    (xq_BadCount_triple : PySem.W.findIn K (.ref C_BadCount) "triple" = some none)
    (xf2_BadCount : PySem.W.typeIn K (.ref f_BadCount___init__) = some (.type "function"))
    (xs_BadKey : PySem.W.findIn K (.ref C_BadKey) "__setattr__" = some (some (.builtin "object.__setattr__")))
    (xe_BadKey : PySem.W.subIn K (.ref C_BadKey) (.type "BaseException") = some true)
    (xy_BadKey : PySem.W.typeIn K (.ref C_BadKey) = some (.type "type"))
    (xq_BadKey_key : PySem.W.findIn K (.ref C_BadKey) "key" = some none)
    (xf2_BadKey : PySem.W.typeIn K (.ref f_BadKey___init__) = some (.type "function"))
    (xi_BadLayout : PySem.W.excIn K C_BadLayout [.type "ValueError", .type "Exception", .type "BaseException", .type "object"] "ValueError.__new__" = true)
    (xb_BadLayout : PySem.W.subIn K (.ref C_BadLayout) (.type "BaseException") = some true)
    (xt_BadLayout : PySem.W.typeIn K (.ref C_BadLayout) = some (.type "type"))
    (cc__law_numbers : PySem.W.codeIn K cd__law_numbers "_law_numbers" = true)
    (kk__law_numbers : PySem.W.keepIn K (.ref f__law_numbers) = true)
    (cc__law_row : PySem.W.codeIn K cd__law_row "_law_row" = true)
    (kk__law_row : PySem.W.keepIn K (.ref f__law_row) = true)
    (cc__law_rows : PySem.W.codeIn K cd__law_rows "_law_rows" = true)
    (kk__law_rows : PySem.W.keepIn K (.ref f__law_rows) = true)
    (cc__law_cell : PySem.W.codeIn K cd__law_cell "_law_cell" = true)
    (kk__law_cell : PySem.W.keepIn K (.ref f__law_cell) = true)
    (cc__law_lines : PySem.W.codeIn K cd__law_lines "_law_lines" = true)
    (kk__law_lines : PySem.W.keepIn K (.ref f__law_lines) = true)
    (cc__law_triples : PySem.W.codeIn K cd__law_triples "_law_triples" = true)
    (kk__law_triples : PySem.W.keepIn K (.ref f__law_triples) = true)
    (cc__law_counts : PySem.W.codeIn K cd__law_counts "_law_counts" = true)
    (kk__law_counts : PySem.W.keepIn K (.ref f__law_counts) = true)
    (cc_Layout___init__ : PySem.W.codeIn K cd_Layout___init__ "Layout.__init__" = true)
    (kk_Layout___init__ : PySem.W.keepIn K (.ref f_Layout___init__) = true)
    (mf_Layout___init__ : PySem.W.isFn K (.ref f_Layout___init__) = true)
    (cc_Layout_is_line : PySem.W.codeIn K cd_Layout_is_line "Layout.is_line" = true)
    (kk_Layout_is_line : PySem.W.keepIn K (.ref f_Layout_is_line) = true)
    (mf_Layout_is_line : PySem.W.isFn K (.ref f_Layout_is_line) = true)
    (cc_Layout_lines : PySem.W.codeIn K cd_Layout_lines "Layout.lines" = true)
    (kk_Layout_lines : PySem.W.keepIn K (.ref f_Layout_lines) = true)
    (mf_Layout_lines : PySem.W.isFn K (.ref f_Layout_lines) = true)
    (cc_Layout___len__ : PySem.W.codeIn K cd_Layout___len__ "Layout.__len__" = true)
    (kk_Layout___len__ : PySem.W.keepIn K (.ref f_Layout___len__) = true)
    (mf_Layout___len__ : PySem.W.isFn K (.ref f_Layout___len__) = true)
    (cc_is_count : PySem.W.codeIn K cd_is_count "is_count" = true)
    (kk_is_count : PySem.W.keepIn K (.ref f_is_count) = true)
    (cc_ascending : PySem.W.codeIn K cd_ascending "ascending" = true)
    (kk_ascending : PySem.W.keepIn K (.ref f_ascending) = true)
    (cc_Book___init__ : PySem.W.codeIn K cd_Book___init__ "Book.__init__" = true)
    (kk_Book___init__ : PySem.W.keepIn K (.ref f_Book___init__) = true)
    (mf_Book___init__ : PySem.W.isFn K (.ref f_Book___init__) = true)
    (cc_Book_full : PySem.W.codeIn K cd_Book_full "Book.full" = true)
    (kk_Book_full : PySem.W.keepIn K (.ref f_Book_full) = true)
    (crr_Book : PySem.W.readsIn K C_Book (.type "type") = true)
    (crg_Book : PySem.W.specialIn K (.ref C_Book) "__getattribute__" = some (some (.builtin "type.__getattribute__")))
    (wrp_Book_full : He5.wrapB K C_Book "classmethod" "classmethod.__get__" "full" = true)
    (wfe_Book_full : He5.wf K C_Book "classmethod" "full" = f_Book_full)
    (fi_Book_full : PySem.W.fnIn K f_Book_full = true)
    (cc__law_is_int : PySem.W.codeIn K cd__law_is_int "_law_is_int" = true)
    (kk__law_is_int : PySem.W.keepIn K (.ref f__law_is_int) = true)
    (cc_Book___len__ : PySem.W.codeIn K cd_Book___len__ "Book.__len__" = true)
    (kk_Book___len__ : PySem.W.keepIn K (.ref f_Book___len__) = true)
    (mf_Book___len__ : PySem.W.isFn K (.ref f_Book___len__) = true)
    (cc__law_same_rows : PySem.W.codeIn K cd__law_same_rows "_law_same_rows" = true)
    (kk__law_same_rows : PySem.W.keepIn K (.ref f__law_same_rows) = true)
    (cc_Book___iter__ : PySem.W.codeIn K cd_Book___iter__ "Book.__iter__" = true)
    (kk_Book___iter__ : PySem.W.keepIn K (.ref f_Book___iter__) = true)
    (mf_Book___iter__ : PySem.W.isFn K (.ref f_Book___iter__) = true)
    (cc__law_same_book : PySem.W.codeIn K cd__law_same_book "_law_same_book" = true)
    (kk__law_same_book : PySem.W.keepIn K (.ref f__law_same_book) = true)
    (cc_Layout___iter__ : PySem.W.codeIn K cd_Layout___iter__ "Layout.__iter__" = true)
    (kk_Layout___iter__ : PySem.W.keepIn K (.ref f_Layout___iter__) = true)
    (mf_Layout___iter__ : PySem.W.isFn K (.ref f_Layout___iter__) = true)
    (cc_joined : PySem.W.codeIn K cd_joined "joined" = true)
    (kk_joined : PySem.W.keepIn K (.ref f_joined) = true)
    (cc_Book___ior__ : PySem.W.codeIn K cd_Book___ior__ "Book.__ior__" = true)
    (kk_Book___ior__ : PySem.W.keepIn K (.ref f_Book___ior__) = true)
    (mf_Book___ior__ : PySem.W.isFn K (.ref f_Book___ior__) = true)
    (cc__law_pairs_of : PySem.W.codeIn K cd__law_pairs_of "_law_pairs_of" = true)
    (kk__law_pairs_of : PySem.W.keepIn K (.ref f__law_pairs_of) = true)
    (cc_Book_lines_of : PySem.W.codeIn K cd_Book_lines_of "Book.lines_of" = true)
    (kk_Book_lines_of : PySem.W.keepIn K (.ref f_Book_lines_of) = true)
    (mf_Book_lines_of : PySem.W.isFn K (.ref f_Book_lines_of) = true)
    (cc_Book___isub__ : PySem.W.codeIn K cd_Book___isub__ "Book.__isub__" = true)
    (kk_Book___isub__ : PySem.W.keepIn K (.ref f_Book___isub__) = true)
    (mf_Book___isub__ : PySem.W.isFn K (.ref f_Book___isub__) = true)
    (cc_law : PySem.W.codeIn K cd_law "law" = true)
    (kk_law : PySem.W.keepIn K (.ref f_law) = true)
    (cc_BadKey___init__ : PySem.W.codeIn K cd_BadKey___init__ "BadKey.__init__" = true)
    (kk_BadKey___init__ : PySem.W.keepIn K (.ref f_BadKey___init__) = true)
    (cc_BadCount___init__ : PySem.W.codeIn K cd_BadCount___init__ "BadCount.__init__" = true)
    (kk_BadCount___init__ : PySem.W.keepIn K (.ref f_BadCount___init__) = true)
    : ∃ fd : FuncData, (∀ (s : Shared) (v : Value), BindsTo s fd ⟨[v], []⟩ [("_law_script", v)]) ∧ ∀ base : Heap, K.In base → base.Ns mainGlobals mg → FnOk l.prog w K mg base (L2.CX l.prog w) 6 fa fd ["_law_script"] (spLaw K) := by
  have e : f_law = fa := (Value.ref.inj (Option.some.inj (hfa.symm.trans (PySem.W.mg_of X G a_law)))).symm
  subst e
  have in_Layout : C8.InsC K C_Layout := ⟨⟨pg_Layout, hd_Layout, po_Layout, sa_Layout⟩, ha_Layout, sp_get, tk_cls, hm_Layout, me_Layout⟩
  have in_Book : C8.InsC K C_Book := ⟨⟨pg_Book, hd_Book, po_Book, sa_Book⟩, ha_Book, sp_get, tk_cls, hm_Book, me_Book⟩
  let T : Tx l.prog K mg := {
    C_KeeperError := C_KeeperError
    C_BadLayout := C_BadLayout
    C_BadKey := C_BadKey
    C_NoCopy := C_NoCopy
    C_BadCount := C_BadCount
    C_Layout := C_Layout
    C_Book := C_Book
    f__law_numbers := f__law_numbers
    f__law_row := f__law_row
    f__law_rows := f__law_rows
    f__law_cell := f__law_cell
    f__law_lines := f__law_lines
    f__law_triples := f__law_triples
    f__law_counts := f__law_counts
    f_Layout___init__ := f_Layout___init__
    f_Layout_is_line := f_Layout_is_line
    f_Layout_lines := f_Layout_lines
    f_Layout___len__ := f_Layout___len__
    f_is_count := f_is_count
    f_ascending := f_ascending
    f_Book___init__ := f_Book___init__
    f_Book_full := f_Book_full
    f__law_is_int := f__law_is_int
    f_Book___len__ := f_Book___len__
    f__law_same_rows := f__law_same_rows
    f_Book___iter__ := f_Book___iter__
    f__law_same_book := f__law_same_book
    f_Layout___iter__ := f_Layout___iter__
    f_joined := f_joined
    f_Book___ior__ := f_Book___ior__
    f__law_pairs_of := f__law_pairs_of
    f_Book_lines_of := f_Book_lines_of
    f_Book___isub__ := f_Book___isub__
    f_law := f_law
    f_BadKey___init__ := f_BadKey___init__
    f_BadCount___init__ := f_BadCount___init__
    fd__law_numbers := PySem.W.fnOf "_law_numbers" "_law_numbers" (defArgs s__law_numbers) (defBody s__law_numbers) (defScope s__law_numbers) .none kV__law_numbers dc__law_numbers pm__law_numbers an__law_numbers cd__law_numbers ct__law_numbers
    fd__law_row := PySem.W.fnOf "_law_row" "_law_row" (defArgs s__law_row) (defBody s__law_row) (defScope s__law_row) .none kV__law_row dc__law_row pm__law_row an__law_row cd__law_row ct__law_row
    fd__law_rows := PySem.W.fnOf "_law_rows" "_law_rows" (defArgs s__law_rows) (defBody s__law_rows) (defScope s__law_rows) .none kV__law_rows dc__law_rows pm__law_rows an__law_rows cd__law_rows ct__law_rows
    fd__law_cell := PySem.W.fnOf "_law_cell" "_law_cell" (defArgs s__law_cell) (defBody s__law_cell) (defScope s__law_cell) .none kV__law_cell dc__law_cell pm__law_cell an__law_cell cd__law_cell ct__law_cell
    fd__law_lines := PySem.W.fnOf "_law_lines" "_law_lines" (defArgs s__law_lines) (defBody s__law_lines) (defScope s__law_lines) .none kV__law_lines dc__law_lines pm__law_lines an__law_lines cd__law_lines ct__law_lines
    fd__law_triples := PySem.W.fnOf "_law_triples" "_law_triples" (defArgs s__law_triples) (defBody s__law_triples) (defScope s__law_triples) .none kV__law_triples dc__law_triples pm__law_triples an__law_triples cd__law_triples ct__law_triples
    fd__law_counts := PySem.W.fnOf "_law_counts" "_law_counts" (defArgs s__law_counts) (defBody s__law_counts) (defScope s__law_counts) .none kV__law_counts dc__law_counts pm__law_counts an__law_counts cd__law_counts ct__law_counts
    fd_Layout___init__ := PySem.W.fnOf "__init__" "Layout.__init__" (defArgs s_Layout___init__) (defBody s_Layout___init__) (defScope s_Layout___init__) .none kV_Layout___init__ dc_Layout___init__ pm_Layout___init__ an_Layout___init__ cd_Layout___init__ ct_Layout___init__
    fd_Layout_is_line := PySem.W.fnOf "is_line" "Layout.is_line" (defArgs s_Layout_is_line) (defBody s_Layout_is_line) (defScope s_Layout_is_line) .none kV_Layout_is_line dc_Layout_is_line pm_Layout_is_line an_Layout_is_line cd_Layout_is_line ct_Layout_is_line
    fd_Layout_lines := PySem.W.fnOf "lines" "Layout.lines" (defArgs s_Layout_lines) (defBody s_Layout_lines) (defScope s_Layout_lines) .none kV_Layout_lines dc_Layout_lines pm_Layout_lines an_Layout_lines cd_Layout_lines ct_Layout_lines
    fd_Layout___len__ := PySem.W.fnOf "__len__" "Layout.__len__" (defArgs s_Layout___len__) (defBody s_Layout___len__) (defScope s_Layout___len__) .none kV_Layout___len__ dc_Layout___len__ pm_Layout___len__ an_Layout___len__ cd_Layout___len__ ct_Layout___len__
    fd_is_count := PySem.W.fnOf "is_count" "is_count" (defArgs s_is_count) (defBody s_is_count) (defScope s_is_count) .none kV_is_count dc_is_count pm_is_count an_is_count cd_is_count ct_is_count
    fd_ascending := PySem.W.fnOf "ascending" "ascending" (defArgs s_ascending) (defBody s_ascending) (defScope s_ascending) .none kV_ascending dc_ascending pm_ascending an_ascending cd_ascending ct_ascending
    fd_Book___init__ := PySem.W.fnOf "__init__" "Book.__init__" (defArgs s_Book___init__) (defBody s_Book___init__) (defScope s_Book___init__) (.ref T_Book___init__) kV_Book___init__ dc_Book___init__ pm_Book___init__ an_Book___init__ cd_Book___init__ ct_Book___init__
    fd_Book_full := PySem.W.fnOf "full" "Book.full" (defArgs s_Book_full) (defBody s_Book_full) (defScope s_Book_full) .none kV_Book_full dc_Book_full pm_Book_full an_Book_full cd_Book_full ct_Book_full
    fd__law_is_int := PySem.W.fnOf "_law_is_int" "_law_is_int" (defArgs s__law_is_int) (defBody s__law_is_int) (defScope s__law_is_int) .none kV__law_is_int dc__law_is_int pm__law_is_int an__law_is_int cd__law_is_int ct__law_is_int
    fd_Book___len__ := PySem.W.fnOf "__len__" "Book.__len__" (defArgs s_Book___len__) (defBody s_Book___len__) (defScope s_Book___len__) .none kV_Book___len__ dc_Book___len__ pm_Book___len__ an_Book___len__ cd_Book___len__ ct_Book___len__
    fd__law_same_rows := PySem.W.fnOf "_law_same_rows" "_law_same_rows" (defArgs s__law_same_rows) (defBody s__law_same_rows) (defScope s__law_same_rows) .none kV__law_same_rows dc__law_same_rows pm__law_same_rows an__law_same_rows cd__law_same_rows ct__law_same_rows
    fd_Book___iter__ := PySem.W.fnOf "__iter__" "Book.__iter__" (defArgs s_Book___iter__) (defBody s_Book___iter__) (defScope s_Book___iter__) .none kV_Book___iter__ dc_Book___iter__ pm_Book___iter__ an_Book___iter__ cd_Book___iter__ ct_Book___iter__
    fd__law_same_book := PySem.W.fnOf "_law_same_book" "_law_same_book" (defArgs s__law_same_book) (defBody s__law_same_book) (defScope s__law_same_book) .none kV__law_same_book dc__law_same_book pm__law_same_book an__law_same_book cd__law_same_book ct__law_same_book
    fd_Layout___iter__ := PySem.W.fnOf "__iter__" "Layout.__iter__" (defArgs s_Layout___iter__) (defBody s_Layout___iter__) (defScope s_Layout___iter__) .none kV_Layout___iter__ dc_Layout___iter__ pm_Layout___iter__ an_Layout___iter__ cd_Layout___iter__ ct_Layout___iter__
    fd_joined := PySem.W.fnOf "joined" "joined" (defArgs s_joined) (defBody s_joined) (defScope s_joined) .none kV_joined dc_joined pm_joined an_joined cd_joined ct_joined
    fd_Book___ior__ := PySem.W.fnOf "__ior__" "Book.__ior__" (defArgs s_Book___ior__) (defBody s_Book___ior__) (defScope s_Book___ior__) .none kV_Book___ior__ dc_Book___ior__ pm_Book___ior__ an_Book___ior__ cd_Book___ior__ ct_Book___ior__
    fd__law_pairs_of := PySem.W.fnOf "_law_pairs_of" "_law_pairs_of" (defArgs s__law_pairs_of) (defBody s__law_pairs_of) (defScope s__law_pairs_of) .none kV__law_pairs_of dc__law_pairs_of pm__law_pairs_of an__law_pairs_of cd__law_pairs_of ct__law_pairs_of
    fd_Book_lines_of := PySem.W.fnOf "lines_of" "Book.lines_of" (defArgs s_Book_lines_of) (defBody s_Book_lines_of) (defScope s_Book_lines_of) .none kV_Book_lines_of dc_Book_lines_of pm_Book_lines_of an_Book_lines_of cd_Book_lines_of ct_Book_lines_of
    fd_Book___isub__ := PySem.W.fnOf "__isub__" "Book.__isub__" (defArgs s_Book___isub__) (defBody s_Book___isub__) (defScope s_Book___isub__) .none kV_Book___isub__ dc_Book___isub__ pm_Book___isub__ an_Book___isub__ cd_Book___isub__ ct_Book___isub__
    fd_law := PySem.W.fnOf "law" "law" (defArgs s_law) (defBody s_law) (defScope s_law) .none kV_law dc_law pm_law an_law cd_law ct_law
    fd_BadKey___init__ := PySem.W.fnOf "__init__" "BadKey.__init__" (defArgs s_BadKey___init__) (defBody s_BadKey___init__) (defScope s_BadKey___init__) .none kV_BadKey___init__ dc_BadKey___init__ pm_BadKey___init__ an_BadKey___init__ cd_BadKey___init__ ct_BadKey___init__
    fd_BadCount___init__ := PySem.W.fnOf "__init__" "BadCount.__init__" (defArgs s_BadCount___init__) (defBody s_BadCount___init__) (defScope s_BadCount___init__) .none kV_BadCount___init__ dc_BadCount___init__ pm_BadCount___init__ an_BadCount___init__ cd_BadCount___init__ ct_BadCount___init__
    E_Book___init__ := E_Book___init__
    v_MOST_COPIES := ⟨_, PySem.W.mg_of X G av_MOST_COPIES⟩
    v_MOST_KEYS := ⟨_, PySem.W.mg_of X G av_MOST_KEYS⟩
    n_all := PySem.W.mg_none_of X G z_all
    n_bool := PySem.W.mg_none_of X G z_bool
    n_int := PySem.W.mg_none_of X G z_int
    n_isinstance := PySem.W.mg_none_of X G z_isinstance
    n_iter := PySem.W.mg_none_of X G z_iter
    n_len := PySem.W.mg_none_of X G z_len
    n_list := PySem.W.mg_none_of X G z_list
    n_range := PySem.W.mg_none_of X G z_range
    n_sum := PySem.W.mg_none_of X G z_sum
    n_tuple := PySem.W.mg_none_of X G z_tuple
    c_KeeperError := PySem.W.mg_of X G aC_KeeperError
    kp_KeeperError := kp_KeeperError
    c_BadLayout := PySem.W.mg_of X G aC_BadLayout
    kp_BadLayout := kp_BadLayout
    c_BadKey := PySem.W.mg_of X G aC_BadKey
    kp_BadKey := kp_BadKey
    c_NoCopy := PySem.W.mg_of X G aC_NoCopy
    kp_NoCopy := kp_NoCopy
    c_BadCount := PySem.W.mg_of X G aC_BadCount
    kp_BadCount := kp_BadCount
    c_Layout := PySem.W.mg_of X G aC_Layout
    kp_Layout := kp_Layout
    c_Book := PySem.W.mg_of X G aC_Book
    kp_Book := kp_Book
    cl_Layout := ⟨pg_Layout, hd_Layout, po_Layout, sa_Layout⟩
    mk_Layout := mk_Layout
    nI_Layout := nA_Layout_rows
    in_Layout := ⟨⟨pg_Layout, hd_Layout, po_Layout, sa_Layout⟩, ha_Layout, sp_get, tk_cls, hm_Layout, me_Layout⟩
    cl_Book := ⟨pg_Book, hd_Book, po_Book, sa_Book⟩
    mk_Book := mk_Book
    nI_Book := nA_Book_rows
    in_Book := ⟨⟨pg_Book, hd_Book, po_Book, sa_Book⟩, ha_Book, sp_get, tk_cls, hm_Book, me_Book⟩
    fd_masks := (ClsN.cons (PySem.W.mg_of X G aC_Layout) ⟨pg_Layout, hd_Layout, po_Layout, sa_Layout⟩ nA_Layout_masks ClsN.nil)
    fd_rows := (ClsN.cons (PySem.W.mg_of X G aC_Layout) ⟨pg_Layout, hd_Layout, po_Layout, sa_Layout⟩ nA_Layout_rows (ClsN.cons (PySem.W.mg_of X G aC_Book) ⟨pg_Book, hd_Book, po_Book, sa_Book⟩ nA_Book_rows ClsN.nil))
    ist_Book := (IsTab.ty it_NoneType_Book (IsTab.ty it_bool_Book (IsTab.ty it_int_Book (IsTab.ty it_str_Book (IsTab.ty it_bytes_Book (IsTab.ty it_tuple_Book (IsTab.ty it_list_Book (IsTab.ty it_dict_Book (IsTab.own (PySem.W.mg_of X G aC_Layout) in_Layout ik_Layout_Book (IsTab.own (PySem.W.mg_of X G aC_Book) in_Book ik_Book_Book IsTab.nil))))))))))
    ist_bool := (IsTab.ty (kit_ty (by decide +kernel)) (IsTab.ty (kit_ty (by decide +kernel)) (IsTab.ty (kit_ty (by decide +kernel)) (IsTab.ty (kit_ty (by decide +kernel)) (IsTab.ty (kit_ty (by decide +kernel)) (IsTab.ty (kit_ty (by decide +kernel)) (IsTab.ty (kit_ty (by decide +kernel)) (IsTab.ty (kit_ty (by decide +kernel)) (IsTab.own (PySem.W.mg_of X G aC_Layout) in_Layout ik_Layout_bool (IsTab.own (PySem.W.mg_of X G aC_Book) in_Book ik_Book_bool IsTab.nil))))))))))
    ist_int := (IsTab.ty (kit_ty (by decide +kernel)) (IsTab.ty (kit_ty (by decide +kernel)) (IsTab.ty (kit_ty (by decide +kernel)) (IsTab.ty (kit_ty (by decide +kernel)) (IsTab.ty (kit_ty (by decide +kernel)) (IsTab.ty (kit_ty (by decide +kernel)) (IsTab.ty (kit_ty (by decide +kernel)) (IsTab.ty (kit_ty (by decide +kernel)) (IsTab.own (PySem.W.mg_of X G aC_Layout) in_Layout ik_Layout_int (IsTab.own (PySem.W.mg_of X G aC_Book) in_Book ik_Book_int IsTab.nil))))))))))
    ist_list := (IsTab.ty (kit_ty (by decide +kernel)) (IsTab.ty (kit_ty (by decide +kernel)) (IsTab.ty (kit_ty (by decide +kernel)) (IsTab.ty (kit_ty (by decide +kernel)) (IsTab.ty (kit_ty (by decide +kernel)) (IsTab.ty (kit_ty (by decide +kernel)) (IsTab.ty (kit_ty (by decide +kernel)) (IsTab.ty (kit_ty (by decide +kernel)) (IsTab.own (PySem.W.mg_of X G aC_Layout) in_Layout ik_Layout_list (IsTab.own (PySem.W.mg_of X G aC_Book) in_Book ik_Book_list IsTab.nil))))))))))
    ist_tuple := (IsTab.ty (kit_ty (by decide +kernel)) (IsTab.ty (kit_ty (by decide +kernel)) (IsTab.ty (kit_ty (by decide +kernel)) (IsTab.ty (kit_ty (by decide +kernel)) (IsTab.ty (kit_ty (by decide +kernel)) (IsTab.ty (kit_ty (by decide +kernel)) (IsTab.ty (kit_ty (by decide +kernel)) (IsTab.ty (kit_ty (by decide +kernel)) (IsTab.own (PySem.W.mg_of X G aC_Layout) in_Layout ik_Layout_tuple (IsTab.own (PySem.W.mg_of X G aC_Book) in_Book ik_Book_tuple IsTab.nil))))))))))
    nft_Book := (NfTab.ty nft_NoneType_Book (NfTab.ty nft_bool_Book (NfTab.ty nft_int_Book (NfTab.ty nft_str_Book (NfTab.ty nft_bytes_Book (NfTab.ty nft_tuple_Book (NfTab.ty nft_list_Book (NfTab.ty nft_dict_Book (NfTab.own (PySem.W.mg_of X G aC_Layout) in_Layout nfo_Layout_Book (NfTab.own (PySem.W.mg_of X G aC_Book) in_Book nfo_Book_Book NfTab.nil))))))))))
    sf_Book := sf_Book
    nfs_Book := nfo_Book_Book
    ox_BadCount := ⟨⟨_, _, _, _, _, _, _, _, _, _, _, _, _, _, _, xL_BadCount, rfl⟩, xs_BadCount, xe_BadCount, xy_BadCount, kp_BadCount⟩
    xn_BadCount := (by intro f hf; simp only [List.mem_cons, List.not_mem_nil, or_false] at hf; rcases hf with rfl; exact xq_BadCount_triple)
    xf1_BadCount := xf1_BadCount
    xf2_BadCount := xf2_BadCount
    ox_BadKey := ⟨⟨_, _, _, _, _, _, _, _, _, _, _, _, _, _, _, xL_BadKey, rfl⟩, xs_BadKey, xe_BadKey, xy_BadKey, kp_BadKey⟩
    xn_BadKey := (by intro f hf; simp only [List.mem_cons, List.not_mem_nil, or_false] at hf; rcases hf with rfl; exact xq_BadKey_key)
    xf1_BadKey := xf1_BadKey
    xf2_BadKey := xf2_BadKey
    xi_BadLayout := xi_BadLayout
    xb_BadLayout := xb_BadLayout
    xt_BadLayout := xt_BadLayout
    F__law_numbers := fun_mk l__law_numbers cc__law_numbers kk__law_numbers
    b__law_numbers := (fun_mk (st := s__law_numbers) l__law_numbers cc__law_numbers kk__law_numbers).binds fun _ _ _ _ _ _ us hl => match us, hl with | [_, _, _], _ => rfl
    g__law_numbers := PySem.W.mg_of X G a__law_numbers
    F__law_row := fun_mk l__law_row cc__law_row kk__law_row
    b__law_row := (fun_mk (st := s__law_row) l__law_row cc__law_row kk__law_row).binds fun _ _ _ _ _ _ us hl => match us, hl with | [_, _, _, _], _ => rfl
    g__law_row := PySem.W.mg_of X G a__law_row
    F__law_rows := fun_mk l__law_rows cc__law_rows kk__law_rows
    b__law_rows := (fun_mk (st := s__law_rows) l__law_rows cc__law_rows kk__law_rows).binds fun _ _ _ _ _ _ us hl => match us, hl with | [_, _, _], _ => rfl
    g__law_rows := PySem.W.mg_of X G a__law_rows
    F__law_cell := fun_mk l__law_cell cc__law_cell kk__law_cell
    b__law_cell := (fun_mk (st := s__law_cell) l__law_cell cc__law_cell kk__law_cell).binds fun _ _ _ _ _ _ us hl => match us, hl with | [_, _], _ => rfl
    g__law_cell := PySem.W.mg_of X G a__law_cell
    F__law_lines := fun_mk l__law_lines cc__law_lines kk__law_lines
    b__law_lines := (fun_mk (st := s__law_lines) l__law_lines cc__law_lines kk__law_lines).binds fun _ _ _ _ _ _ us hl => match us, hl with | [_], _ => rfl
    g__law_lines := PySem.W.mg_of X G a__law_lines
    F__law_triples := fun_mk l__law_triples cc__law_triples kk__law_triples
    b__law_triples := (fun_mk (st := s__law_triples) l__law_triples cc__law_triples kk__law_triples).binds fun _ _ _ _ _ _ us hl => match us, hl with | [_], _ => rfl
    g__law_triples := PySem.W.mg_of X G a__law_triples
    F__law_counts := fun_mk l__law_counts cc__law_counts kk__law_counts
    b__law_counts := (fun_mk (st := s__law_counts) l__law_counts cc__law_counts kk__law_counts).binds fun _ _ _ _ _ _ us hl => match us, hl with | [_, _], _ => rfl
    g__law_counts := PySem.W.mg_of X G a__law_counts
    F_Layout___init__ := fun_mk l_Layout___init__ cc_Layout___init__ kk_Layout___init__
    b_Layout___init__ := (fun_mk (st := s_Layout___init__) l_Layout___init__ cc_Layout___init__ kk_Layout___init__).binds fun _ _ _ _ _ _ us hl => match us, hl with | [_, _], _ => rfl
    mt_Layout___init__ := ⟨ma_Layout___init__, mf_Layout___init__, kk_Layout___init__⟩
    F_Layout_is_line := fun_mk l_Layout_is_line cc_Layout_is_line kk_Layout_is_line
    b_Layout_is_line := (fun_mk (st := s_Layout_is_line) l_Layout_is_line cc_Layout_is_line kk_Layout_is_line).binds fun _ _ _ _ _ _ us hl => match us, hl with | [_, _, _], _ => rfl
    mt_Layout_is_line := ⟨ma_Layout_is_line, mf_Layout_is_line, kk_Layout_is_line⟩
    F_Layout_lines := fun_mk l_Layout_lines cc_Layout_lines kk_Layout_lines
    b_Layout_lines := (fun_mk (st := s_Layout_lines) l_Layout_lines cc_Layout_lines kk_Layout_lines).binds fun _ _ _ _ _ _ us hl => match us, hl with | [_], _ => rfl
    mt_Layout_lines := ⟨ma_Layout_lines, mf_Layout_lines, kk_Layout_lines⟩
    F_Layout___len__ := fun_mk l_Layout___len__ cc_Layout___len__ kk_Layout___len__
    b_Layout___len__ := (fun_mk (st := s_Layout___len__) l_Layout___len__ cc_Layout___len__ kk_Layout___len__).binds fun _ _ _ _ _ _ us hl => match us, hl with | [_], _ => rfl
    mt_Layout___len__ := ⟨ma_Layout___len__, mf_Layout___len__, kk_Layout___len__⟩
    F_is_count := fun_mk l_is_count cc_is_count kk_is_count
    b_is_count := (fun_mk (st := s_is_count) l_is_count cc_is_count kk_is_count).binds fun _ _ _ _ _ _ us hl => match us, hl with | [_], _ => rfl
    g_is_count := PySem.W.mg_of X G a_is_count
    F_ascending := fun_mk l_ascending cc_ascending kk_ascending
    b_ascending := (fun_mk (st := s_ascending) l_ascending cc_ascending kk_ascending).binds fun _ _ _ _ _ _ us hl => match us, hl with | [_], _ => rfl
    g_ascending := PySem.W.mg_of X G a_ascending
    F_Book___init__ := funE_mk l_Book___init__ cc_Book___init__ kk_Book___init__ t_Book___init__
    df_Book___init__ := dfl_empty e_Book___init__
    b_Book___init__ := FunE.all (st := s_Book___init__) (funE_mk l_Book___init__ cc_Book___init__ kk_Book___init__ t_Book___init__) fun _ _ _ _ _ _ _ us its hu hi => match us, its, hu, hi with | [_, _], [_], _, _ => ⟨_, rfl, rfl⟩
    bd_Book___init__ := FunE.less (st := s_Book___init__) (funE_mk l_Book___init__ cc_Book___init__ kk_Book___init__ t_Book___init__) 1 rfl fun _ _ _ _ _ _ _ us its hu hi => match us, its, hu, hi with | [_], [_], _, _ => ⟨_, rfl, rfl⟩
    mt_Book___init__ := ⟨ma_Book___init__, mf_Book___init__, kk_Book___init__⟩
    F_Book_full := fun_mk l_Book_full cc_Book_full kk_Book_full
    b_Book_full := (fun_mk (st := s_Book_full) l_Book_full cc_Book_full kk_Book_full).binds fun _ _ _ _ _ _ us hl => match us, hl with | [_, _], _ => rfl
    crd_Book := cread_z crr_Book crg_Book
    cm_Book_full := cmet_z wrp_Book_full wfe_Book_full fi_Book_full
    F__law_is_int := fun_mk l__law_is_int cc__law_is_int kk__law_is_int
    b__law_is_int := (fun_mk (st := s__law_is_int) l__law_is_int cc__law_is_int kk__law_is_int).binds fun _ _ _ _ _ _ us hl => match us, hl with | [_], _ => rfl
    g__law_is_int := PySem.W.mg_of X G a__law_is_int
    F_Book___len__ := fun_mk l_Book___len__ cc_Book___len__ kk_Book___len__
    b_Book___len__ := (fun_mk (st := s_Book___len__) l_Book___len__ cc_Book___len__ kk_Book___len__).binds fun _ _ _ _ _ _ us hl => match us, hl with | [_], _ => rfl
    mt_Book___len__ := ⟨ma_Book___len__, mf_Book___len__, kk_Book___len__⟩
    F__law_same_rows := fun_mk l__law_same_rows cc__law_same_rows kk__law_same_rows
    b__law_same_rows := (fun_mk (st := s__law_same_rows) l__law_same_rows cc__law_same_rows kk__law_same_rows).binds fun _ _ _ _ _ _ us hl => match us, hl with | [_, _], _ => rfl
    g__law_same_rows := PySem.W.mg_of X G a__law_same_rows
    F_Book___iter__ := fun_mk l_Book___iter__ cc_Book___iter__ kk_Book___iter__
    b_Book___iter__ := (fun_mk (st := s_Book___iter__) l_Book___iter__ cc_Book___iter__ kk_Book___iter__).binds fun _ _ _ _ _ _ us hl => match us, hl with | [_], _ => rfl
    mt_Book___iter__ := ⟨ma_Book___iter__, mf_Book___iter__, kk_Book___iter__⟩
    F__law_same_book := fun_mk l__law_same_book cc__law_same_book kk__law_same_book
    b__law_same_book := (fun_mk (st := s__law_same_book) l__law_same_book cc__law_same_book kk__law_same_book).binds fun _ _ _ _ _ _ us hl => match us, hl with | [_, _], _ => rfl
    g__law_same_book := PySem.W.mg_of X G a__law_same_book
    F_Layout___iter__ := fun_mk l_Layout___iter__ cc_Layout___iter__ kk_Layout___iter__
    b_Layout___iter__ := (fun_mk (st := s_Layout___iter__) l_Layout___iter__ cc_Layout___iter__ kk_Layout___iter__).binds fun _ _ _ _ _ _ us hl => match us, hl with | [_], _ => rfl
    mt_Layout___iter__ := ⟨ma_Layout___iter__, mf_Layout___iter__, kk_Layout___iter__⟩
    F_joined := fun_mk l_joined cc_joined kk_joined
    g_joined := PySem.W.mg_of X G a_joined
    F_Book___ior__ := fun_mk l_Book___ior__ cc_Book___ior__ kk_Book___ior__
    b_Book___ior__ := (fun_mk (st := s_Book___ior__) l_Book___ior__ cc_Book___ior__ kk_Book___ior__).binds fun _ _ _ _ _ _ us hl => match us, hl with | [_, _], _ => rfl
    mt_Book___ior__ := ⟨ma_Book___ior__, mf_Book___ior__, kk_Book___ior__⟩
    F__law_pairs_of := fun_mk l__law_pairs_of cc__law_pairs_of kk__law_pairs_of
    b__law_pairs_of := (fun_mk (st := s__law_pairs_of) l__law_pairs_of cc__law_pairs_of kk__law_pairs_of).binds fun _ _ _ _ _ _ us hl => match us, hl with | [_, _], _ => rfl
    g__law_pairs_of := PySem.W.mg_of X G a__law_pairs_of
    F_Book_lines_of := fun_mk l_Book_lines_of cc_Book_lines_of kk_Book_lines_of
    b_Book_lines_of := (fun_mk (st := s_Book_lines_of) l_Book_lines_of cc_Book_lines_of kk_Book_lines_of).binds fun _ _ _ _ _ _ us hl => match us, hl with | [_, _], _ => rfl
    mt_Book_lines_of := ⟨ma_Book_lines_of, mf_Book_lines_of, kk_Book_lines_of⟩
    F_Book___isub__ := fun_mk l_Book___isub__ cc_Book___isub__ kk_Book___isub__
    b_Book___isub__ := (fun_mk (st := s_Book___isub__) l_Book___isub__ cc_Book___isub__ kk_Book___isub__).binds fun _ _ _ _ _ _ us hl => match us, hl with | [_, _], _ => rfl
    mt_Book___isub__ := ⟨ma_Book___isub__, mf_Book___isub__, kk_Book___isub__⟩
    F_law := fun_mk l_law cc_law kk_law
    b_law := (fun_mk (st := s_law) l_law cc_law kk_law).binds fun _ _ _ _ _ _ us hl => match us, hl with | [_], _ => rfl
    F_BadKey___init__ := fun_mk l_BadKey___init__ cc_BadKey___init__ kk_BadKey___init__
    b_BadKey___init__ := (fun_mk (st := s_BadKey___init__) l_BadKey___init__ cc_BadKey___init__ kk_BadKey___init__).binds fun _ _ _ _ _ _ us hl => match us, hl with | [_, _], _ => rfl
    F_BadCount___init__ := fun_mk l_BadCount___init__ cc_BadCount___init__ kk_BadCount___init__
    b_BadCount___init__ := (fun_mk (st := s_BadCount___init__) l_BadCount___init__ cc_BadCount___init__ kk_BadCount___init__).binds fun _ _ _ _ _ _ us hl => match us, hl with | [_, _], _ => rfl
  }
  exact ⟨PySem.W.fnOf "law" "law" (defArgs s_law) (defBody s_law) (defScope s_law) .none kV_law dc_law pm_law an_law cd_law ct_law, fun s v => .of_eq rfl, fun base _ _ => law_end (ok_law T) says⟩
theorem all_z {w : World} {K : PySem.W.Frag} {h : Heap} {mg : Str → Option Value} {fa : Addr} (X : K.In h) (G : h.Ns mainGlobals mg) (hfa : mg "law" = some (.ref fa)) (c : SaysZ chkZ fnZl vsZl K)
    : ∃ fd : FuncData, (∀ (s : Shared) (v : Value), BindsTo s fd ⟨[v], []⟩ [("_law_script", v)]) ∧ ∀ base : Heap, K.In base → base.Ns mainGlobals mg → FnOk PySem.Challenge.rw_partkeepers_k08_full_and_joined_books.prog w K mg base (L2.CX PySem.Challenge.rw_partkeepers_k08_full_and_joined_books.prog w) 6 fa fd ["_law_script"] (spLaw K) := by
  have q := c.1
  obtain ⟨k0, q⟩ := He.ba q
  obtain ⟨k1, q⟩ := He.ba q
  obtain ⟨k2, q⟩ := He.ba q
  obtain ⟨k3, q⟩ := He.ba q
  have k4 := q
  obtain ⟨oc__law_numbers, od__law_numbers, sl__law_numbers, kV__law_numbers, dc__law_numbers, pm__law_numbers, an__law_numbers, cd__law_numbers, ct__law_numbers, l__law_numbers, cc__law_numbers⟩ := fn_okZ (f := He.ga K "_law_numbers") (n := "_law_numbers") (q := "_law_numbers") (ps := defArgs s__law_numbers) (b := defBody s__law_numbers) (sc := defScope s__law_numbers) (c.fn_ 0 rfl rfl) (ck_at k0 0 rfl)
  obtain ⟨oc__law_row, od__law_row, sl__law_row, kV__law_row, dc__law_row, pm__law_row, an__law_row, cd__law_row, ct__law_row, l__law_row, cc__law_row⟩ := fn_okZ (f := He.ga K "_law_row") (n := "_law_row") (q := "_law_row") (ps := defArgs s__law_row) (b := defBody s__law_row) (sc := defScope s__law_row) (c.fn_ 1 rfl rfl) (ck_at k0 1 rfl)
  obtain ⟨oc__law_rows, od__law_rows, sl__law_rows, kV__law_rows, dc__law_rows, pm__law_rows, an__law_rows, cd__law_rows, ct__law_rows, l__law_rows, cc__law_rows⟩ := fn_okZ (f := He.ga K "_law_rows") (n := "_law_rows") (q := "_law_rows") (ps := defArgs s__law_rows) (b := defBody s__law_rows) (sc := defScope s__law_rows) (c.fn_ 2 rfl rfl) (ck_at k0 2 rfl)
  obtain ⟨oc__law_cell, od__law_cell, sl__law_cell, kV__law_cell, dc__law_cell, pm__law_cell, an__law_cell, cd__law_cell, ct__law_cell, l__law_cell, cc__law_cell⟩ := fn_okZ (f := He.ga K "_law_cell") (n := "_law_cell") (q := "_law_cell") (ps := defArgs s__law_cell) (b := defBody s__law_cell) (sc := defScope s__law_cell) (c.fn_ 3 rfl rfl) (ck_at k0 3 rfl)
  obtain ⟨oc__law_lines, od__law_lines, sl__law_lines, kV__law_lines, dc__law_lines, pm__law_lines, an__law_lines, cd__law_lines, ct__law_lines, l__law_lines, cc__law_lines⟩ := fn_okZ (f := He.ga K "_law_lines") (n := "_law_lines") (q := "_law_lines") (ps := defArgs s__law_lines) (b := defBody s__law_lines) (sc := defScope s__law_lines) (c.fn_ 4 rfl rfl) (ck_at k0 4 rfl)
  obtain ⟨oc__law_triples, od__law_triples, sl__law_triples, kV__law_triples, dc__law_triples, pm__law_triples, an__law_triples, cd__law_triples, ct__law_triples, l__law_triples, cc__law_triples⟩ := fn_okZ (f := He.ga K "_law_triples") (n := "_law_triples") (q := "_law_triples") (ps := defArgs s__law_triples) (b := defBody s__law_triples) (sc := defScope s__law_triples) (c.fn_ 5 rfl rfl) (ck_at k0 5 rfl)
  obtain ⟨oc__law_counts, od__law_counts, sl__law_counts, kV__law_counts, dc__law_counts, pm__law_counts, an__law_counts, cd__law_counts, ct__law_counts, l__law_counts, cc__law_counts⟩ := fn_okZ (f := He.ga K "_law_counts") (n := "_law_counts") (q := "_law_counts") (ps := defArgs s__law_counts) (b := defBody s__law_counts) (sc := defScope s__law_counts) (c.fn_ 6 rfl rfl) (ck_at k0 6 rfl)
  obtain ⟨oc_Layout___init__, od_Layout___init__, sl_Layout___init__, kV_Layout___init__, dc_Layout___init__, pm_Layout___init__, an_Layout___init__, cd_Layout___init__, ct_Layout___init__, l_Layout___init__, cc_Layout___init__⟩ := fn_okZ (f := He.ma K (He.ga K "Layout") "__init__") (n := "__init__") (q := "Layout.__init__") (ps := defArgs s_Layout___init__) (b := defBody s_Layout___init__) (sc := defScope s_Layout___init__) (c.fn_ 7 rfl rfl) (ck_at k0 7 rfl)
  obtain ⟨oc_Layout_is_line, od_Layout_is_line, sl_Layout_is_line, kV_Layout_is_line, dc_Layout_is_line, pm_Layout_is_line, an_Layout_is_line, cd_Layout_is_line, ct_Layout_is_line, l_Layout_is_line, cc_Layout_is_line⟩ := fn_okZ (f := He.ma K (He.ga K "Layout") "is_line") (n := "is_line") (q := "Layout.is_line") (ps := defArgs s_Layout_is_line) (b := defBody s_Layout_is_line) (sc := defScope s_Layout_is_line) (c.fn_ 8 rfl rfl) (ck_at k0 8 rfl)
  obtain ⟨oc_Layout_lines, od_Layout_lines, sl_Layout_lines, kV_Layout_lines, dc_Layout_lines, pm_Layout_lines, an_Layout_lines, cd_Layout_lines, ct_Layout_lines, l_Layout_lines, cc_Layout_lines⟩ := fn_okZ (f := He.ma K (He.ga K "Layout") "lines") (n := "lines") (q := "Layout.lines") (ps := defArgs s_Layout_lines) (b := defBody s_Layout_lines) (sc := defScope s_Layout_lines) (c.fn_ 9 rfl rfl) (ck_at k0 9 rfl)
  obtain ⟨oc_Layout___len__, od_Layout___len__, sl_Layout___len__, kV_Layout___len__, dc_Layout___len__, pm_Layout___len__, an_Layout___len__, cd_Layout___len__, ct_Layout___len__, l_Layout___len__, cc_Layout___len__⟩ := fn_okZ (f := He.ma K (He.ga K "Layout") "__len__") (n := "__len__") (q := "Layout.__len__") (ps := defArgs s_Layout___len__) (b := defBody s_Layout___len__) (sc := defScope s_Layout___len__) (c.fn_ 10 rfl rfl) (ck_at k0 10 rfl)
  obtain ⟨oc_is_count, od_is_count, sl_is_count, kV_is_count, dc_is_count, pm_is_count, an_is_count, cd_is_count, ct_is_count, l_is_count, cc_is_count⟩ := fn_okZ (f := He.ga K "is_count") (n := "is_count") (q := "is_count") (ps := defArgs s_is_count) (b := defBody s_is_count) (sc := defScope s_is_count) (c.fn_ 11 rfl rfl) (ck_at k0 11 rfl)
  obtain ⟨oc_ascending, od_ascending, sl_ascending, kV_ascending, dc_ascending, pm_ascending, an_ascending, cd_ascending, ct_ascending, l_ascending, cc_ascending⟩ := fn_okZ (f := He.ga K "ascending") (n := "ascending") (q := "ascending") (ps := defArgs s_ascending) (b := defBody s_ascending) (sc := defScope s_ascending) (c.fn_ 12 rfl rfl) (ck_at k0 12 rfl)
  obtain ⟨T_Book___init__, E_Book___init__, tc_Book___init__, td_Book___init__, te_Book___init__, tn_Book___init__, en_Book___init__, ts_Book___init__, es_Book___init__, oc_Book___init__, od_Book___init__, sl_Book___init__, kV_Book___init__, dc_Book___init__, pm_Book___init__, an_Book___init__, cd_Book___init__, ct_Book___init__, l_Book___init__, cc_Book___init__, t_Book___init__, e_Book___init__⟩ := fn_okD (f := He.ma K (He.ga K "Book") "__init__") (n := "__init__") (q := "Book.__init__") (ps := defArgs s_Book___init__) (b := defBody s_Book___init__) (sc := defScope s_Book___init__) (c.fn_ 13 rfl rfl) (ck_at k0 13 rfl)
  obtain ⟨oc_Book_full, od_Book_full, sl_Book_full, kV_Book_full, dc_Book_full, pm_Book_full, an_Book_full, cd_Book_full, ct_Book_full, l_Book_full, cc_Book_full⟩ := fn_okZ (f := He5.wf K (He.ga K "Book") "classmethod" "full") (n := "full") (q := "Book.full") (ps := defArgs s_Book_full) (b := defBody s_Book_full) (sc := defScope s_Book_full) (c.fn_ 14 rfl rfl) (ck_at k0 14 rfl)
  obtain ⟨oc__law_is_int, od__law_is_int, sl__law_is_int, kV__law_is_int, dc__law_is_int, pm__law_is_int, an__law_is_int, cd__law_is_int, ct__law_is_int, l__law_is_int, cc__law_is_int⟩ := fn_okZ (f := He.ga K "_law_is_int") (n := "_law_is_int") (q := "_law_is_int") (ps := defArgs s__law_is_int) (b := defBody s__law_is_int) (sc := defScope s__law_is_int) (c.fn_ 15 rfl rfl) (ck_at k0 15 rfl)
  obtain ⟨oc_Book___len__, od_Book___len__, sl_Book___len__, kV_Book___len__, dc_Book___len__, pm_Book___len__, an_Book___len__, cd_Book___len__, ct_Book___len__, l_Book___len__, cc_Book___len__⟩ := fn_okZ (f := He.ma K (He.ga K "Book") "__len__") (n := "__len__") (q := "Book.__len__") (ps := defArgs s_Book___len__) (b := defBody s_Book___len__) (sc := defScope s_Book___len__) (c.fn_ 16 rfl rfl) (ck_at k0 16 rfl)
  obtain ⟨oc__law_same_rows, od__law_same_rows, sl__law_same_rows, kV__law_same_rows, dc__law_same_rows, pm__law_same_rows, an__law_same_rows, cd__law_same_rows, ct__law_same_rows, l__law_same_rows, cc__law_same_rows⟩ := fn_okZ (f := He.ga K "_law_same_rows") (n := "_law_same_rows") (q := "_law_same_rows") (ps := defArgs s__law_same_rows) (b := defBody s__law_same_rows) (sc := defScope s__law_same_rows) (c.fn_ 17 rfl rfl) (ck_at k0 17 rfl)
  obtain ⟨oc_Book___iter__, od_Book___iter__, sl_Book___iter__, kV_Book___iter__, dc_Book___iter__, pm_Book___iter__, an_Book___iter__, cd_Book___iter__, ct_Book___iter__, l_Book___iter__, cc_Book___iter__⟩ := fn_okZ (f := He.ma K (He.ga K "Book") "__iter__") (n := "__iter__") (q := "Book.__iter__") (ps := defArgs s_Book___iter__) (b := defBody s_Book___iter__) (sc := defScope s_Book___iter__) (c.fn_ 18 rfl rfl) (ck_at k0 18 rfl)
  obtain ⟨oc__law_same_book, od__law_same_book, sl__law_same_book, kV__law_same_book, dc__law_same_book, pm__law_same_book, an__law_same_book, cd__law_same_book, ct__law_same_book, l__law_same_book, cc__law_same_book⟩ := fn_okZ (f := He.ga K "_law_same_book") (n := "_law_same_book") (q := "_law_same_book") (ps := defArgs s__law_same_book) (b := defBody s__law_same_book) (sc := defScope s__law_same_book) (c.fn_ 19 rfl rfl) (ck_at k0 19 rfl)
  obtain ⟨oc_Layout___iter__, od_Layout___iter__, sl_Layout___iter__, kV_Layout___iter__, dc_Layout___iter__, pm_Layout___iter__, an_Layout___iter__, cd_Layout___iter__, ct_Layout___iter__, l_Layout___iter__, cc_Layout___iter__⟩ := fn_okZ (f := He.ma K (He.ga K "Layout") "__iter__") (n := "__iter__") (q := "Layout.__iter__") (ps := defArgs s_Layout___iter__) (b := defBody s_Layout___iter__) (sc := defScope s_Layout___iter__) (c.fn_ 20 rfl rfl) (ck_at k0 20 rfl)
  obtain ⟨oc_joined, od_joined, sl_joined, kV_joined, dc_joined, pm_joined, an_joined, cd_joined, ct_joined, l_joined, cc_joined⟩ := fn_okZ (f := He.ga K "joined") (n := "joined") (q := "joined") (ps := defArgs s_joined) (b := defBody s_joined) (sc := defScope s_joined) (c.fn_ 21 rfl rfl) (ck_at k0 21 rfl)
  obtain ⟨oc_Book___ior__, od_Book___ior__, sl_Book___ior__, kV_Book___ior__, dc_Book___ior__, pm_Book___ior__, an_Book___ior__, cd_Book___ior__, ct_Book___ior__, l_Book___ior__, cc_Book___ior__⟩ := fn_okZ (f := He.ma K (He.ga K "Book") "__ior__") (n := "__ior__") (q := "Book.__ior__") (ps := defArgs s_Book___ior__) (b := defBody s_Book___ior__) (sc := defScope s_Book___ior__) (c.fn_ 22 rfl rfl) (ck_at k0 22 rfl)
  obtain ⟨oc__law_pairs_of, od__law_pairs_of, sl__law_pairs_of, kV__law_pairs_of, dc__law_pairs_of, pm__law_pairs_of, an__law_pairs_of, cd__law_pairs_of, ct__law_pairs_of, l__law_pairs_of, cc__law_pairs_of⟩ := fn_okZ (f := He.ga K "_law_pairs_of") (n := "_law_pairs_of") (q := "_law_pairs_of") (ps := defArgs s__law_pairs_of) (b := defBody s__law_pairs_of) (sc := defScope s__law_pairs_of) (c.fn_ 23 rfl rfl) (ck_at k0 23 rfl)
  obtain ⟨oc_Book_lines_of, od_Book_lines_of, sl_Book_lines_of, kV_Book_lines_of, dc_Book_lines_of, pm_Book_lines_of, an_Book_lines_of, cd_Book_lines_of, ct_Book_lines_of, l_Book_lines_of, cc_Book_lines_of⟩ := fn_okZ (f := He.ma K (He.ga K "Book") "lines_of") (n := "lines_of") (q := "Book.lines_of") (ps := defArgs s_Book_lines_of) (b := defBody s_Book_lines_of) (sc := defScope s_Book_lines_of) (c.fn_ 24 rfl rfl) (ck_at k0 24 rfl)
  obtain ⟨oc_Book___isub__, od_Book___isub__, sl_Book___isub__, kV_Book___isub__, dc_Book___isub__, pm_Book___isub__, an_Book___isub__, cd_Book___isub__, ct_Book___isub__, l_Book___isub__, cc_Book___isub__⟩ := fn_okZ (f := He.ma K (He.ga K "Book") "__isub__") (n := "__isub__") (q := "Book.__isub__") (ps := defArgs s_Book___isub__) (b := defBody s_Book___isub__) (sc := defScope s_Book___isub__) (c.fn_ 25 rfl rfl) (ck_at k0 25 rfl)
  obtain ⟨oc_law, od_law, sl_law, kV_law, dc_law, pm_law, an_law, cd_law, ct_law, l_law, cc_law⟩ := fn_okZ (f := He.ga K "law") (n := "law") (q := "law") (ps := defArgs s_law) (b := defBody s_law) (sc := defScope s_law) (c.fn_ 26 rfl rfl) (ck_at k0 26 rfl)
  obtain ⟨oc_BadKey___init__, od_BadKey___init__, sl_BadKey___init__, kV_BadKey___init__, dc_BadKey___init__, pm_BadKey___init__, an_BadKey___init__, cd_BadKey___init__, ct_BadKey___init__, l_BadKey___init__, cc_BadKey___init__⟩ := fn_okZ (f := He.ma K (He.ga K "BadKey") "__init__") (n := "__init__") (q := "BadKey.__init__") (ps := defArgs s_BadKey___init__) (b := defBody s_BadKey___init__) (sc := defScope s_BadKey___init__) (c.fn_ 27 rfl rfl) (ck_at k0 27 rfl)
  obtain ⟨oc_BadCount___init__, od_BadCount___init__, sl_BadCount___init__, kV_BadCount___init__, dc_BadCount___init__, pm_BadCount___init__, an_BadCount___init__, cd_BadCount___init__, ct_BadCount___init__, l_BadCount___init__, cc_BadCount___init__⟩ := fn_okZ (f := He.ma K (He.ga K "BadCount") "__init__") (n := "__init__") (q := "BadCount.__init__") (ps := defArgs s_BadCount___init__) (b := defBody s_BadCount___init__) (sc := defScope s_BadCount___init__) (c.fn_ 28 rfl rfl) (ck_at k0 28 rfl)
  obtain ⟨tk_MOST_COPIES, av_MOST_COPIES⟩ := intB_ok (x := "MOST_COPIES") (i := 6) (ck_at k0 29 rfl)
  obtain ⟨tk_MOST_KEYS, av_MOST_KEYS⟩ := intB_ok (x := "MOST_KEYS") (i := 8) (ck_at k0 30 rfl)
  obtain ⟨nm_BadCount, qq_BadCount, N_BadCount, bs_BadCount, sn_BadCount, sb_BadCount, ab_BadCount, co_BadCount, dd_BadCount, m0_BadCount, m1_BadCount, m2_BadCount, m3_BadCount, m5_BadCount, xL_BadCount⟩ := excB_ok (C := He.ga K "BadCount") (bm := [.ref (He.ga K "KeeperError"), .type "ValueError", .type "Exception", .type "BaseException", .type "object"]) (nid := "ValueError.__new__") (ck_at k2 25 rfl)
  obtain ⟨nm_BadKey, qq_BadKey, N_BadKey, bs_BadKey, sn_BadKey, sb_BadKey, ab_BadKey, co_BadKey, dd_BadKey, m0_BadKey, m1_BadKey, m2_BadKey, m3_BadKey, m5_BadKey, xL_BadKey⟩ := excB_ok (C := He.ga K "BadKey") (bm := [.ref (He.ga K "KeeperError"), .type "ValueError", .type "Exception", .type "BaseException", .type "object"]) (nid := "ValueError.__new__") (ck_at k2 32 rfl)
  exact all_mk (l := PySem.Challenge.rw_partkeepers_k08_full_and_joined_books) (C_KeeperError := He.ga K "KeeperError") (C_BadLayout := He.ga K "BadLayout") (C_BadKey := He.ga K "BadKey") (C_NoCopy := He.ga K "NoCopy") (C_BadCount := He.ga K "BadCount") (C_Layout := He.ga K "Layout") (C_Book := He.ga K "Book") (f__law_numbers := He.ga K "_law_numbers") (f__law_row := He.ga K "_law_row") (f__law_rows := He.ga K "_law_rows") (f__law_cell := He.ga K "_law_cell") (f__law_lines := He.ga K "_law_lines") (f__law_triples := He.ga K "_law_triples") (f__law_counts := He.ga K "_law_counts") (f_Layout___init__ := He.ma K (He.ga K "Layout") "__init__") (f_Layout_is_line := He.ma K (He.ga K "Layout") "is_line") (f_Layout_lines := He.ma K (He.ga K "Layout") "lines") (f_Layout___len__ := He.ma K (He.ga K "Layout") "__len__") (f_is_count := He.ga K "is_count") (f_ascending := He.ga K "ascending") (f_Book___init__ := He.ma K (He.ga K "Book") "__init__") (f_Book_full := He5.wf K (He.ga K "Book") "classmethod" "full") (f__law_is_int := He.ga K "_law_is_int") (f_Book___len__ := He.ma K (He.ga K "Book") "__len__") (f__law_same_rows := He.ga K "_law_same_rows") (f_Book___iter__ := He.ma K (He.ga K "Book") "__iter__") (f__law_same_book := He.ga K "_law_same_book") (f_Layout___iter__ := He.ma K (He.ga K "Layout") "__iter__") (f_joined := He.ga K "joined") (f_Book___ior__ := He.ma K (He.ga K "Book") "__ior__") (f__law_pairs_of := He.ga K "_law_pairs_of") (f_Book_lines_of := He.ma K (He.ga K "Book") "lines_of") (f_Book___isub__ := He.ma K (He.ga K "Book") "__isub__") (f_law := He.ga K "law") (f_BadKey___init__ := He.ma K (He.ga K "BadKey") "__init__") (f_BadCount___init__ := He.ma K (He.ga K "BadCount") "__init__") X G hfa (ck_d k1 1 rfl) (ck_d k1 3 rfl) (ck_d k1 5 rfl) (ck_d k1 7 rfl) (ck_d k1 9 rfl) (ck_d k1 11 rfl) (ck_d k1 13 rfl) (ck_d k2 30 rfl) (ck_d k2 37 rfl) (ck_d k3 3 rfl) (ck_d k3 5 rfl) (ck_d k3 7 rfl) (ck_d k3 9 rfl) (ck_d k3 11 rfl) (ck_d k3 13 rfl) (ck_d k3 15 rfl) (ck_d k3 17 rfl) (ck_d k3 20 rfl) (ck_d k3 23 rfl) (ck_d k3 26 rfl) (ck_d k3 29 rfl) (ck_d k3 31 rfl) (ck_d k3 33 rfl) (ck_d k4 2 rfl) (ck_d k4 4 rfl) (ck_d k4 7 rfl) (ck_d k4 9 rfl) (ck_d k4 12 rfl) (ck_d k4 14 rfl) (ck_d k4 17 rfl) (ck_d k4 19 rfl) (ck_d k4 22 rfl) (ck_d k4 24 rfl) (ck_d k4 27 rfl) (ck_d k4 30 rfl) av_MOST_COPIES av_MOST_KEYS xL_BadCount xL_BadKey l__law_numbers l__law_row l__law_rows l__law_cell l__law_lines l__law_triples l__law_counts l_Layout___init__ l_Layout_is_line l_Layout_lines l_Layout___len__ l_is_count l_ascending l_Book___init__ l_Book_full l__law_is_int l_Book___len__ l__law_same_rows l_Book___iter__ l__law_same_book l_Layout___iter__ l_joined l_Book___ior__ l__law_pairs_of l_Book_lines_of l_Book___isub__ l_law l_BadKey___init__ l_BadCount___init__ t_Book___init__ e_Book___init__ (ck_d k0 31 rfl) (ck_d k0 32 rfl) (ck_d k0 33 rfl) (ck_d k0 34 rfl) (ck_d k0 35 rfl) (ck_d k0 36 rfl) (ck_d k0 37 rfl) (ck_d k0 38 rfl) (ck_d k0 39 rfl) (ck_d k1 0 rfl) (ck_d k1 2 rfl) (ck_d k1 4 rfl) (ck_d k1 6 rfl) (ck_d k1 8 rfl) (ck_d k1 10 rfl) (ck_d k1 12 rfl) (ck_d k1 14 rfl) (ck_d k1 15 rfl) (ck_d k1 16 rfl) (ck_d k1 17 rfl) (ck_d k1 18 rfl) (ck_d k1 19 rfl) (ck_d k1 20 rfl) (ck_d k1 21 rfl) (ck_d k1 22 rfl) (ck_d k1 23 rfl) (ck_d k1 24 rfl) (ck_d k1 25 rfl) (ck_d k1 26 rfl) (ck_d k1 27 rfl) (ck_d k1 28 rfl) (ck_d k1 29 rfl) (ck_d k1 30 rfl) (ck_d k1 31 rfl) (ck_d k1 32 rfl) (ck_d k1 33 rfl) (ck_d k1 34 rfl) (ck_d k1 35 rfl) (ck_d k1 36 rfl) (ck_d k1 37 rfl) (ck_d k1 38 rfl) (ck_d k1 39 rfl) (ck_d k2 0 rfl) (ck_d k2 1 rfl) (ck_d k2 2 rfl) (ck_d k2 3 rfl) (ck_d k2 4 rfl) (ck_d k2 5 rfl) (ck_d k2 6 rfl) (ck_d k2 7 rfl) (ck_d k2 8 rfl) (ck_d k2 9 rfl) (ck_d k2 10 rfl) (ck_d k2 11 rfl) (ck_d k2 12 rfl) (ck_d k2 13 rfl) (ck_d k2 14 rfl) (ck_d k2 15 rfl) (ck_d k2 16 rfl) (ck_d k2 17 rfl) (ck_d k2 18 rfl) (ck_d k2 19 rfl) (ck_d k2 20 rfl) (ck_d k2 21 rfl) (ck_d k2 22 rfl) (ck_d k2 23 rfl) (ck_d k2 24 rfl) (ck_d k2 26 rfl) (ck_d k2 27 rfl) (ck_d k2 28 rfl) (ck_d k2 29 rfl) (ck_d k2 31 rfl) (ck_d k2 33 rfl) (ck_d k2 34 rfl) (ck_d k2 35 rfl) (ck_d k2 36 rfl) (ck_d k2 38 rfl) (ck_d k2 39 rfl) (ck_d k3 0 rfl) (ck_d k3 1 rfl) cc__law_numbers (ck_d k3 2 rfl) cc__law_row (ck_d k3 4 rfl) cc__law_rows (ck_d k3 6 rfl) cc__law_cell (ck_d k3 8 rfl) cc__law_lines (ck_d k3 10 rfl) cc__law_triples (ck_d k3 12 rfl) cc__law_counts (ck_d k3 14 rfl) cc_Layout___init__ (ck_d k3 16 rfl) (ck_d k3 18 rfl) cc_Layout_is_line (ck_d k3 19 rfl) (ck_d k3 21 rfl) cc_Layout_lines (ck_d k3 22 rfl) (ck_d k3 24 rfl) cc_Layout___len__ (ck_d k3 25 rfl) (ck_d k3 27 rfl) cc_is_count (ck_d k3 28 rfl) cc_ascending (ck_d k3 30 rfl) cc_Book___init__ (ck_d k3 32 rfl) (ck_d k3 34 rfl) cc_Book_full (ck_d k3 35 rfl) (ck_d k3 36 rfl) (ck_d k3 37 rfl) (ck_d k3 38 rfl) (ck_d k3 39 rfl) (ck_d k4 0 rfl) cc__law_is_int (ck_d k4 1 rfl) cc_Book___len__ (ck_d k4 3 rfl) (ck_d k4 5 rfl) cc__law_same_rows (ck_d k4 6 rfl) cc_Book___iter__ (ck_d k4 8 rfl) (ck_d k4 10 rfl) cc__law_same_book (ck_d k4 11 rfl) cc_Layout___iter__ (ck_d k4 13 rfl) (ck_d k4 15 rfl) cc_joined (ck_d k4 16 rfl) cc_Book___ior__ (ck_d k4 18 rfl) (ck_d k4 20 rfl) cc__law_pairs_of (ck_d k4 21 rfl) cc_Book_lines_of (ck_d k4 23 rfl) (ck_d k4 25 rfl) cc_Book___isub__ (ck_d k4 26 rfl) (ck_d k4 28 rfl) cc_law (ck_d k4 29 rfl) cc_BadKey___init__ (ck_d k4 31 rfl) cc_BadCount___init__ (ck_d k4 32 rfl)
end Z
open PySem PySem.W PySem.Calls PyProof.Rows
set_option maxRecDepth 100000 in
set_option maxHeartbeats 0 in
theorem PySem.Challenge.cw_partkeepers_k08_full_and_joined_books_holds : PySem.Challenge.rw_partkeepers_k08_full_and_joined_books.Holds := by
  w_on; o_law
  refine HandSHeadRun.head_any (r := (PySem.W.OpenLaw.row PySem.Challenge.rw_partkeepers_k08_full_and_joined_books)) (q := PySem.W.view (PySem.W.OpenLaw.row PySem.Challenge.rw_partkeepers_k08_full_and_joined_books).prog [28]) (H := Z.hk) (ob := Z.obZ) (M := 60000) (loose := Z.loose) (d := HandSHeadRun.topDef (PySem.W.OpenLaw.row PySem.Challenge.rw_partkeepers_k08_full_and_joined_books).prog 28) (kwd := []) (fun s => Z.obsZ_eq (HandSHeadRun.getT_eq s)) (by kernel_rfl) (fun s => by kernel_rfl) Z.runZ (by kernel_rfl) (by kernel_rfl) (by kernel_rfl) (by rfl) (by first | assumption | decide +kernel) (by decide +kernel) ⟨rfl, rfl, rfl, rfl, rfl, by decide +kernel⟩ ?hw ?hc
  case hw => w_witness2
  case hc =>
    refine Z.walkE (l := PySem.Challenge.rw_partkeepers_k08_full_and_joined_books) (k := 6) (x := "_law_script") rfl (by kernel_rfl) ⟨rfl, by decide, by decide⟩ ?F
    intro w mg fa h Y G hmg0
    obtain ⟨K, KX, c⟩ := Y
    have hmg : mg ("law" : PySem.Str) = some (.ref fa) := by
      have e : (HandSHeadRun.topDef (PySem.W.OpenLaw.row PySem.Challenge.rw_partkeepers_k08_full_and_joined_books).prog 28).name = ("law" : PySem.Str) := by kernel_rfl
      rw [← e]
      exact hmg0
    exact ⟨K, KX, Z.all_z KX G hmg c⟩
